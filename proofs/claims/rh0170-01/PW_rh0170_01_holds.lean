import PyProof.Rows.All
import Wide.All
import OpenK.AllK
import Wide.FinOn
import PySem.Challenge.RW_rh0170_01
set_option maxRecDepth 100000
set_option maxHeartbeats 0
set_option Elab.async false
set_option linter.all false
namespace Mine
open PySem PySem.W PySem.Calls PyProof.Rows
def bodyOf : Stmt → List Stmt
  | .FunctionDef (body := b) .. => b
  | .ClassDef (body := b) .. => b
  | _ => []
noncomputable def bAt (i : Nat) : List Stmt := bodyOf (PySem.Challenge.pw_rh0170_01.main.body.getD i (.Pass default))
noncomputable def mAt (i j : Nat) : List Stmt := bodyOf ((bAt i).getD j (.Pass default))
noncomputable def s0 : Str := ⟨⟨[nat_lit 95, nat_lit 119, nat_lit 97, nat_lit 108, nat_lit 108]⟩⟩
noncomputable def s1 : Str := ⟨⟨[nat_lit 107]⟩⟩
noncomputable def a0 : Arguments := ⟨[], [⟨s1, none, ⟨1, 10, 1, 11⟩⟩], none, [], [], none, []⟩
noncomputable def c1 : Scope := ⟨.function, [(s1, .local)], false, false, []⟩
noncomputable def t2 : Stmt := (.FunctionDef s0 a0 (bAt 0) [] none [] c1 none s0 ⟨1, 0, 3, 12⟩)
noncomputable def s2 : Str := ⟨⟨[nat_lit 95, nat_lit 95, nat_lit 110, nat_lit 97, nat_lit 109, nat_lit 101, nat_lit 95, nat_lit 95]⟩⟩
noncomputable def s3 : Str := ⟨⟨[nat_lit 108, nat_lit 117, nat_lit 97, nat_lit 46, nat_lit 102, nat_lit 114, nat_lit 97, nat_lit 109, nat_lit 101, nat_lit 115]⟩⟩
noncomputable def t3 : Stmt := (.Assign [(.Name s2 ⟨4, 0, 4, 8⟩)] (.Constant (.str s3) 0 ⟨4, 11, 4, 23⟩) ⟨4, 0, 4, 23⟩)
noncomputable def s4 : Str := ⟨⟨[nat_lit 117, nat_lit 110, nat_lit 119, nat_lit 111, nat_lit 117, nat_lit 110, nat_lit 100]⟩⟩
noncomputable def s5 : Str := ⟨⟨[nat_lit 102, nat_lit 114, nat_lit 97, nat_lit 109, nat_lit 101, nat_lit 115]⟩⟩
noncomputable def s6 : Str := ⟨⟨[nat_lit 100, nat_lit 101, nat_lit 112, nat_lit 116, nat_lit 104]⟩⟩
noncomputable def a4 : Arguments := ⟨[], [⟨s5, none, ⟨5, 12, 5, 18⟩⟩, ⟨s6, none, ⟨5, 20, 5, 25⟩⟩], none, [], [], none, []⟩
noncomputable def s7 : Str := ⟨⟨[nat_lit 108, nat_lit 101, nat_lit 110]⟩⟩
noncomputable def c5 : Scope := ⟨.function, [(s5, .local), (s6, .local), (s7, .globalImplicit)], false, false, []⟩
noncomputable def t6 : Stmt := (.FunctionDef s4 a4 (bAt 2) [] none [] c5 none s4 ⟨5, 0, 7, 20⟩)
noncomputable def s8 : Str := ⟨⟨[nat_lit 108, nat_lit 117, nat_lit 97, nat_lit 46, nat_lit 118, nat_lit 97, nat_lit 108, nat_lit 117, nat_lit 101, nat_lit 115]⟩⟩
noncomputable def t7 : Stmt := (.Assign [(.Name s2 ⟨8, 0, 8, 8⟩)] (.Constant (.str s8) 0 ⟨8, 11, 8, 23⟩) ⟨8, 0, 8, 23⟩)
noncomputable def s9 : Str := ⟨⟨[nat_lit 84, nat_lit 95, nat_lit 78, nat_lit 79, nat_lit 78, nat_lit 69]⟩⟩
noncomputable def t8 : Stmt := (.Assign [(.Name s9 ⟨9, 0, 9, 6⟩)] (.UnaryOp .USub (.Constant (.int 1) 0 ⟨9, 10, 9, 11⟩) ⟨9, 9, 9, 11⟩) ⟨9, 0, 9, 11⟩)
noncomputable def s10 : Str := ⟨⟨[nat_lit 84, nat_lit 95, nat_lit 78, nat_lit 73, nat_lit 76]⟩⟩
noncomputable def t9 : Stmt := (.Assign [(.Name s10 ⟨10, 0, 10, 5⟩)] (.Constant (.int 0) 0 ⟨10, 8, 10, 9⟩) ⟨10, 0, 10, 9⟩)
noncomputable def s11 : Str := ⟨⟨[nat_lit 84, nat_lit 95, nat_lit 66, nat_lit 79, nat_lit 79, nat_lit 76, nat_lit 69, nat_lit 65, nat_lit 78]⟩⟩
noncomputable def t10 : Stmt := (.Assign [(.Name s11 ⟨11, 0, 11, 9⟩)] (.Constant (.int 1) 0 ⟨11, 12, 11, 13⟩) ⟨11, 0, 11, 13⟩)
noncomputable def s12 : Str := ⟨⟨[nat_lit 84, nat_lit 95, nat_lit 76, nat_lit 73, nat_lit 71, nat_lit 72, nat_lit 84]⟩⟩
noncomputable def t11 : Stmt := (.Assign [(.Name s12 ⟨12, 0, 12, 7⟩)] (.Constant (.int 2) 0 ⟨12, 10, 12, 11⟩) ⟨12, 0, 12, 11⟩)
noncomputable def s13 : Str := ⟨⟨[nat_lit 84, nat_lit 95, nat_lit 78, nat_lit 85, nat_lit 77, nat_lit 66, nat_lit 69, nat_lit 82]⟩⟩
noncomputable def t12 : Stmt := (.Assign [(.Name s13 ⟨13, 0, 13, 8⟩)] (.Constant (.int 3) 0 ⟨13, 11, 13, 12⟩) ⟨13, 0, 13, 12⟩)
noncomputable def s14 : Str := ⟨⟨[nat_lit 84, nat_lit 95, nat_lit 83, nat_lit 84, nat_lit 82, nat_lit 73, nat_lit 78, nat_lit 71]⟩⟩
noncomputable def t13 : Stmt := (.Assign [(.Name s14 ⟨14, 0, 14, 8⟩)] (.Constant (.int 4) 0 ⟨14, 11, 14, 12⟩) ⟨14, 0, 14, 12⟩)
noncomputable def s15 : Str := ⟨⟨[nat_lit 84, nat_lit 95, nat_lit 84, nat_lit 65, nat_lit 66, nat_lit 76, nat_lit 69]⟩⟩
noncomputable def t14 : Stmt := (.Assign [(.Name s15 ⟨15, 0, 15, 7⟩)] (.Constant (.int 5) 0 ⟨15, 10, 15, 11⟩) ⟨15, 0, 15, 11⟩)
noncomputable def s16 : Str := ⟨⟨[nat_lit 84, nat_lit 95, nat_lit 84, nat_lit 72, nat_lit 82, nat_lit 69, nat_lit 65, nat_lit 68]⟩⟩
noncomputable def t15 : Stmt := (.Assign [(.Name s16 ⟨16, 0, 16, 8⟩)] (.Constant (.int 8) 0 ⟨16, 11, 16, 12⟩) ⟨16, 0, 16, 12⟩)
noncomputable def s17 : Str := ⟨⟨[nat_lit 84, nat_lit 95, nat_lit 85, nat_lit 80, nat_lit 86, nat_lit 65, nat_lit 76]⟩⟩
noncomputable def t16 : Stmt := (.Assign [(.Name s17 ⟨17, 0, 17, 7⟩)] (.Constant (.int 10) 0 ⟨17, 10, 17, 12⟩) ⟨17, 0, 17, 12⟩)
noncomputable def s18 : Str := ⟨⟨[nat_lit 72, nat_lit 65, nat_lit 83, nat_lit 72, nat_lit 95, nat_lit 77, nat_lit 65, nat_lit 83, nat_lit 75]⟩⟩
noncomputable def t17 : Stmt := (.Assign [(.Name s18 ⟨18, 0, 18, 9⟩)] (.Constant (.int 4294967295) 0 ⟨18, 12, 18, 22⟩) ⟨18, 0, 18, 22⟩)
noncomputable def s19 : Str := ⟨⟨[nat_lit 76, nat_lit 105, nat_lit 109, nat_lit 105, nat_lit 116, nat_lit 115]⟩⟩
noncomputable def s20 : Str := ⟨⟨[nat_lit 95, nat_lit 95, nat_lit 105, nat_lit 110, nat_lit 105, nat_lit 116, nat_lit 95, nat_lit 95]⟩⟩
noncomputable def s21 : Str := ⟨⟨[nat_lit 115, nat_lit 101, nat_lit 108, nat_lit 102]⟩⟩
noncomputable def s22 : Str := ⟨⟨[nat_lit 119, nat_lit 105, nat_lit 100, nat_lit 116, nat_lit 104]⟩⟩
noncomputable def s23 : Str := ⟨⟨[nat_lit 114, nat_lit 101, nat_lit 103, nat_lit 105, nat_lit 115, nat_lit 116, nat_lit 101, nat_lit 114, nat_lit 115]⟩⟩
noncomputable def s24 : Str := ⟨⟨[nat_lit 117, nat_lit 112, nat_lit 118, nat_lit 97, nat_lit 108, nat_lit 117, nat_lit 101, nat_lit 115]⟩⟩
noncomputable def s25 : Str := ⟨⟨[nat_lit 108, nat_lit 111, nat_lit 99, nat_lit 97, nat_lit 108, nat_lit 95, nat_lit 110, nat_lit 97, nat_lit 109, nat_lit 101, nat_lit 115]⟩⟩
noncomputable def s26 : Str := ⟨⟨[nat_lit 99, nat_lit 99, nat_lit 97, nat_lit 108, nat_lit 108, nat_lit 115]⟩⟩
noncomputable def s27 : Str := ⟨⟨[nat_lit 115, nat_lit 116, nat_lit 97, nat_lit 99, nat_lit 107]⟩⟩
noncomputable def s28 : Str := ⟨⟨[nat_lit 102, nat_lit 108, nat_lit 117, nat_lit 115, nat_lit 104]⟩⟩
noncomputable def s29 : Str := ⟨⟨[nat_lit 115, nat_lit 116, nat_lit 101, nat_lit 112, nat_lit 115]⟩⟩
noncomputable def s30 : Str := ⟨⟨[nat_lit 116, nat_lit 101, nat_lit 120, nat_lit 116]⟩⟩
noncomputable def a18 : Arguments := ⟨[], [⟨s21, none, ⟨21, 17, 21, 21⟩⟩, ⟨s22, none, ⟨21, 23, 21, 28⟩⟩, ⟨s23, none, ⟨21, 33, 21, 42⟩⟩, ⟨s24, none, ⟨21, 48, 21, 56⟩⟩, ⟨s25, none, ⟨21, 61, 21, 72⟩⟩, ⟨s26, none, ⟨21, 78, 21, 84⟩⟩, ⟨s5, none, ⟨21, 89, 21, 95⟩⟩, ⟨s27, none, ⟨21, 101, 21, 106⟩⟩, ⟨s28, none, ⟨21, 113, 21, 118⟩⟩, ⟨s29, none, ⟨21, 123, 21, 128⟩⟩, ⟨s30, none, ⟨21, 141, 21, 145⟩⟩], none, [], [], none, [(.Constant (.int 64) 0 ⟨21, 29, 21, 31⟩), (.Constant (.int 250) 0 ⟨21, 43, 21, 46⟩), (.Constant (.int 60) 0 ⟨21, 57, 21, 59⟩), (.Constant (.int 200) 0 ⟨21, 73, 21, 76⟩), (.Constant (.int 40) 0 ⟨21, 85, 21, 87⟩), (.Constant (.int 200) 0 ⟨21, 96, 21, 99⟩), (.Constant (.int 2000) 0 ⟨21, 107, 21, 111⟩), (.Constant (.int 50) 0 ⟨21, 119, 21, 121⟩), (.Constant (.int 1000000000) 0 ⟨21, 129, 21, 139⟩), (.Constant (.int 1000000) 0 ⟨21, 146, 21, 153⟩)]⟩
noncomputable def c19 : Scope := ⟨.function, [(s21, .local), (s22, .local), (s23, .local), (s24, .local), (s25, .local), (s26, .local), (s5, .local), (s27, .local), (s28, .local), (s29, .local), (s30, .local)], false, false, []⟩
noncomputable def s31 : Str := ⟨⟨[nat_lit 103, nat_lit 114, nat_lit 101, nat_lit 97, nat_lit 116, nat_lit 101, nat_lit 115, nat_lit 116]⟩⟩
noncomputable def a20 : Arguments := ⟨[], [⟨s21, none, ⟨33, 17, 33, 21⟩⟩], none, [], [], none, []⟩
noncomputable def c21 : Scope := ⟨.function, [(s21, .local)], false, false, []⟩
noncomputable def s32 : Str := ⟨⟨[nat_lit 108, nat_lit 101, nat_lit 97, nat_lit 115, nat_lit 116]⟩⟩
noncomputable def a22 : Arguments := ⟨[], [⟨s21, none, ⟨36, 14, 36, 18⟩⟩], none, [], [], none, []⟩
noncomputable def t23 : Stmt := (.ClassDef s19 [] [] [(.FunctionDef s20 a18 (mAt 14 0) [] none [] c19 none s20 ⟨21, 4, 31, 24⟩), (.FunctionDef s31 a20 (mAt 14 1) [] none [] c21 none s31 ⟨33, 4, 34, 40⟩), (.FunctionDef s32 a22 (mAt 14 2) [] none [] c21 none s32 ⟨36, 4, 37, 37⟩)] [] [] ⟨.class, [(s20, .local), (s31, .local), (s32, .local)], false, false, []⟩ none s19 [s26, s28, s5, s25, s23, s27, s29, s30, s24, s22] ⟨19, 0, 37, 37⟩)
noncomputable def s33 : Str := ⟨⟨[nat_lit 76, nat_lit 117, nat_lit 97, nat_lit 69, nat_lit 114, nat_lit 114, nat_lit 111, nat_lit 114]⟩⟩
noncomputable def s34 : Str := ⟨⟨[nat_lit 69, nat_lit 120, nat_lit 99, nat_lit 101, nat_lit 112, nat_lit 116, nat_lit 105, nat_lit 111, nat_lit 110]⟩⟩
noncomputable def s35 : Str := ⟨⟨[nat_lit 118, nat_lit 97, nat_lit 108, nat_lit 117, nat_lit 101]⟩⟩
noncomputable def a24 : Arguments := ⟨[], [⟨s21, none, ⟨40, 17, 40, 21⟩⟩, ⟨s35, none, ⟨40, 23, 40, 28⟩⟩], none, [], [], none, []⟩
noncomputable def c25 : Scope := ⟨.function, [(s21, .local), (s35, .local)], false, false, []⟩
noncomputable def s36 : Str := ⟨⟨[nat_lit 105, nat_lit 115, nat_lit 95, nat_lit 105, nat_lit 110, nat_lit 95, nat_lit 104, nat_lit 97, nat_lit 110, nat_lit 100, nat_lit 108, nat_lit 101, nat_lit 114]⟩⟩
noncomputable def s37 : Str := ⟨⟨[nat_lit 116, nat_lit 114, nat_lit 97, nat_lit 99, nat_lit 101]⟩⟩
noncomputable def t26 : Stmt := (.ClassDef s33 [(.Name s34 ⟨38, 15, 38, 24⟩)] [] [(.FunctionDef s20 a24 (mAt 15 0) [] none [] c25 none s20 ⟨40, 4, 43, 34⟩)] [] [] ⟨.class, [(s20, .local)], false, false, []⟩ none s33 [s36, s37, s35] ⟨38, 0, 43, 34⟩)
noncomputable def s38 : Str := ⟨⟨[nat_lit 72, nat_lit 101, nat_lit 97, nat_lit 112, nat_lit 79, nat_lit 98, nat_lit 106, nat_lit 101, nat_lit 99, nat_lit 116]⟩⟩
noncomputable def s39 : Str := ⟨⟨[nat_lit 107, nat_lit 105, nat_lit 110, nat_lit 100]⟩⟩
noncomputable def s40 : Str := ⟨⟨[nat_lit 110, nat_lit 117, nat_lit 109, nat_lit 98, nat_lit 101, nat_lit 114]⟩⟩
noncomputable def s41 : Str := ⟨⟨[nat_lit 115, nat_lit 105, nat_lit 122, nat_lit 101]⟩⟩
noncomputable def a27 : Arguments := ⟨[], [⟨s21, none, ⟨47, 17, 47, 21⟩⟩, ⟨s40, none, ⟨47, 23, 47, 29⟩⟩, ⟨s41, none, ⟨47, 31, 47, 35⟩⟩], none, [], [], none, []⟩
noncomputable def c28 : Scope := ⟨.function, [(s21, .local), (s40, .local), (s41, .local)], false, false, []⟩
noncomputable def s42 : Str := ⟨⟨[nat_lit 109, nat_lit 97, nat_lit 114, nat_lit 107]⟩⟩
noncomputable def t29 : Stmt := (.ClassDef s38 [] [] [(.Assign [(.Name s39 ⟨45, 4, 45, 8⟩)] (.Name s9 ⟨45, 11, 45, 17⟩) ⟨45, 4, 45, 17⟩), (.FunctionDef s20 a27 (mAt 16 1) [] none [] c28 none s20 ⟨47, 4, 50, 24⟩)] [] [] ⟨.class, [(s39, .local), (s9, .globalImplicit), (s20, .local)], false, false, []⟩ none s38 [s42, s40, s41] ⟨44, 0, 50, 24⟩)
noncomputable def s43 : Str := ⟨⟨[nat_lit 76, nat_lit 105, nat_lit 103, nat_lit 104, nat_lit 116, nat_lit 86, nat_lit 97, nat_lit 108, nat_lit 117, nat_lit 101]⟩⟩
noncomputable def a30 : Arguments := ⟨[], [⟨s21, none, ⟨53, 17, 53, 21⟩⟩, ⟨s40, none, ⟨53, 23, 53, 29⟩⟩], none, [], [], none, []⟩
noncomputable def c31 : Scope := ⟨.function, [(s21, .local), (s40, .local)], false, false, []⟩
noncomputable def t32 : Stmt := (.ClassDef s43 [] [] [(.FunctionDef s20 a30 (mAt 17 0) [] none [] c31 none s20 ⟨53, 4, 54, 28⟩)] [] [] ⟨.class, [(s20, .local)], false, false, []⟩ none s43 [s40] ⟨51, 0, 54, 28⟩)
noncomputable def s44 : Str := ⟨⟨[nat_lit 105, nat_lit 115, nat_lit 95, nat_lit 110, nat_lit 117, nat_lit 109, nat_lit 98, nat_lit 101, nat_lit 114]⟩⟩
noncomputable def a33 : Arguments := ⟨[], [⟨s35, none, ⟨55, 14, 55, 19⟩⟩], none, [], [], none, []⟩
noncomputable def s45 : Str := ⟨⟨[nat_lit 105, nat_lit 115, nat_lit 105, nat_lit 110, nat_lit 115, nat_lit 116, nat_lit 97, nat_lit 110, nat_lit 99, nat_lit 101]⟩⟩
noncomputable def s46 : Str := ⟨⟨[nat_lit 105, nat_lit 110, nat_lit 116]⟩⟩
noncomputable def s47 : Str := ⟨⟨[nat_lit 98, nat_lit 111, nat_lit 111, nat_lit 108]⟩⟩
noncomputable def c34 : Scope := ⟨.function, [(s35, .local), (s45, .globalImplicit), (s46, .globalImplicit), (s47, .globalImplicit)], false, false, []⟩
noncomputable def t35 : Stmt := (.FunctionDef s44 a33 (bAt 18) [] none [] c34 none s44 ⟨55, 0, 56, 67⟩)
noncomputable def s48 : Str := ⟨⟨[nat_lit 116, nat_lit 121, nat_lit 112, nat_lit 101, nat_lit 95, nat_lit 111, nat_lit 102]⟩⟩
noncomputable def a36 : Arguments := ⟨[], [⟨s35, none, ⟨57, 12, 57, 17⟩⟩], none, [], [], none, []⟩
noncomputable def s49 : Str := ⟨⟨[nat_lit 98, nat_lit 121, nat_lit 116, nat_lit 101, nat_lit 115]⟩⟩
noncomputable def c37 : Scope := ⟨.function, [(s35, .local), (s10, .globalImplicit), (s45, .globalImplicit), (s47, .globalImplicit), (s11, .globalImplicit), (s46, .globalImplicit), (s13, .globalImplicit), (s49, .globalImplicit), (s14, .globalImplicit), (s43, .globalImplicit), (s12, .globalImplicit), (s38, .globalImplicit), (s9, .globalImplicit)], false, false, []⟩
noncomputable def t38 : Stmt := (.FunctionDef s48 a36 (bAt 19) [] none [] c37 none s48 ⟨57, 0, 70, 17⟩)
noncomputable def s50 : Str := ⟨⟨[nat_lit 105, nat_lit 115, nat_lit 95, nat_lit 99, nat_lit 111, nat_lit 108, nat_lit 108, nat_lit 101, nat_lit 99, nat_lit 116, nat_lit 97, nat_lit 98, nat_lit 108, nat_lit 101]⟩⟩
noncomputable def a39 : Arguments := ⟨[], [⟨s35, none, ⟨71, 19, 71, 24⟩⟩], none, [], [], none, []⟩
noncomputable def c40 : Scope := ⟨.function, [(s35, .local), (s45, .globalImplicit), (s38, .globalImplicit)], false, false, []⟩
noncomputable def t41 : Stmt := (.FunctionDef s50 a39 (bAt 20) [] none [] c40 none s50 ⟨71, 0, 72, 40⟩)
noncomputable def s51 : Str := ⟨⟨[nat_lit 114, nat_lit 97, nat_lit 119, nat_lit 95, nat_lit 101, nat_lit 113, nat_lit 117, nat_lit 97, nat_lit 108]⟩⟩
noncomputable def s52 : Str := ⟨⟨[nat_lit 97]⟩⟩
noncomputable def s53 : Str := ⟨⟨[nat_lit 98]⟩⟩
noncomputable def a42 : Arguments := ⟨[], [⟨s52, none, ⟨73, 14, 73, 15⟩⟩, ⟨s53, none, ⟨73, 17, 73, 18⟩⟩], none, [], [], none, []⟩
noncomputable def s54 : Str := ⟨⟨[nat_lit 116, nat_lit 97, nat_lit 103]⟩⟩
noncomputable def c43 : Scope := ⟨.function, [(s52, .local), (s53, .local), (s54, .local), (s48, .globalImplicit), (s10, .globalImplicit), (s11, .globalImplicit), (s13, .globalImplicit), (s14, .globalImplicit)], false, false, []⟩
noncomputable def t44 : Stmt := (.FunctionDef s51 a42 (bAt 21) [] none [] c43 none s51 ⟨73, 0, 81, 31⟩)
noncomputable def s55 : Str := ⟨⟨[nat_lit 115, nat_lit 116, nat_lit 114, nat_lit 105, nat_lit 110, nat_lit 103, nat_lit 95, nat_lit 104, nat_lit 97, nat_lit 115, nat_lit 104]⟩⟩
noncomputable def a45 : Arguments := ⟨[], [⟨s30, none, ⟨82, 16, 82, 20⟩⟩], none, [], [], none, []⟩
noncomputable def s56 : Str := ⟨⟨[nat_lit 102, nat_lit 111, nat_lit 117, nat_lit 110, nat_lit 100]⟩⟩
noncomputable def s57 : Str := ⟨⟨[nat_lit 97, nat_lit 116]⟩⟩
noncomputable def s58 : Str := ⟨⟨[nat_lit 115, nat_lit 116, nat_lit 101, nat_lit 112]⟩⟩
noncomputable def c46 : Scope := ⟨.function, [(s30, .local), (s56, .local), (s57, .local), (s58, .local), (s7, .globalImplicit), (s18, .globalImplicit)], false, false, []⟩
noncomputable def t47 : Stmt := (.FunctionDef s55 a45 (bAt 22) [] none [] c46 none s55 ⟨82, 0, 88, 16⟩)
noncomputable def s59 : Str := ⟨⟨[nat_lit 108, nat_lit 111, nat_lit 103, nat_lit 50]⟩⟩
noncomputable def s60 : Str := ⟨⟨[nat_lit 110]⟩⟩
noncomputable def a48 : Arguments := ⟨[], [⟨s60, none, ⟨89, 9, 89, 10⟩⟩], none, [], [], none, []⟩
noncomputable def c49 : Scope := ⟨.function, [(s60, .local), (s56, .local)], false, false, []⟩
noncomputable def t50 : Stmt := (.FunctionDef s59 a48 (bAt 23) [] none [] c49 none s59 ⟨89, 0, 94, 16⟩)
noncomputable def s61 : Str := ⟨⟨[nat_lit 99, nat_lit 101, nat_lit 105, nat_lit 108, nat_lit 95, nat_lit 108, nat_lit 111, nat_lit 103, nat_lit 50]⟩⟩
noncomputable def a51 : Arguments := ⟨[], [⟨s60, none, ⟨95, 14, 95, 15⟩⟩], none, [], [], none, []⟩
noncomputable def c52 : Scope := ⟨.function, [(s60, .local), (s59, .globalImplicit)], false, false, []⟩
noncomputable def t53 : Stmt := (.FunctionDef s61 a51 (bAt 24) [] none [] c52 none s61 ⟨95, 0, 96, 26⟩)
noncomputable def s62 : Str := ⟨⟨[nat_lit 108, nat_lit 117, nat_lit 97, nat_lit 46, nat_lit 117, nat_lit 112, nat_lit 118, nat_lit 97, nat_lit 108, nat_lit 115]⟩⟩
noncomputable def t54 : Stmt := (.Assign [(.Name s2 ⟨97, 0, 97, 8⟩)] (.Constant (.str s62) 0 ⟨97, 11, 97, 23⟩) ⟨97, 0, 97, 23⟩)
noncomputable def s63 : Str := ⟨⟨[nat_lit 83, nat_lit 73, nat_lit 90, nat_lit 69, nat_lit 95, nat_lit 85, nat_lit 80, nat_lit 86, nat_lit 65, nat_lit 76]⟩⟩
noncomputable def t55 : Stmt := (.Assign [(.Name s63 ⟨98, 0, 98, 10⟩)] (.Constant (.int 4) 0 ⟨98, 13, 98, 14⟩) ⟨98, 0, 98, 14⟩)
noncomputable def s64 : Str := ⟨⟨[nat_lit 85, nat_lit 112, nat_lit 86, nat_lit 97, nat_lit 108]⟩⟩
noncomputable def s65 : Str := ⟨⟨[nat_lit 116, nat_lit 104, nat_lit 114, nat_lit 101, nat_lit 97, nat_lit 100]⟩⟩
noncomputable def s66 : Str := ⟨⟨[nat_lit 105, nat_lit 110, nat_lit 100, nat_lit 101, nat_lit 120]⟩⟩
noncomputable def a56 : Arguments := ⟨[], [⟨s21, none, ⟨102, 17, 102, 21⟩⟩, ⟨s65, none, ⟨102, 23, 102, 29⟩⟩, ⟨s66, none, ⟨102, 31, 102, 36⟩⟩], none, [], [], none, []⟩
noncomputable def c57 : Scope := ⟨.function, [(s21, .local), (s65, .local), (s66, .local), (s38, .globalImplicit), (s63, .globalImplicit)], false, false, []⟩
noncomputable def s67 : Str := ⟨⟨[nat_lit 105, nat_lit 115, nat_lit 95, nat_lit 111, nat_lit 112, nat_lit 101, nat_lit 110]⟩⟩
noncomputable def a58 : Arguments := ⟨[], [⟨s21, none, ⟨109, 16, 109, 20⟩⟩], none, [], [], none, []⟩
noncomputable def s68 : Str := ⟨⟨[nat_lit 112, nat_lit 114, nat_lit 111, nat_lit 112, nat_lit 101, nat_lit 114, nat_lit 116, nat_lit 121]⟩⟩
noncomputable def s69 : Str := ⟨⟨[nat_lit 103, nat_lit 101, nat_lit 116]⟩⟩
noncomputable def a59 : Arguments := ⟨[], [⟨s21, none, ⟨112, 12, 112, 16⟩⟩], none, [], [], none, []⟩
noncomputable def s70 : Str := ⟨⟨[nat_lit 115, nat_lit 101, nat_lit 116]⟩⟩
noncomputable def a60 : Arguments := ⟨[], [⟨s21, none, ⟨117, 12, 117, 16⟩⟩, ⟨s35, none, ⟨117, 18, 117, 23⟩⟩], none, [], [], none, []⟩
noncomputable def s71 : Str := ⟨⟨[nat_lit 99, nat_lit 108, nat_lit 111, nat_lit 115, nat_lit 101]⟩⟩
noncomputable def a61 : Arguments := ⟨[], [⟨s21, none, ⟨123, 14, 123, 18⟩⟩], none, [], [], none, []⟩
noncomputable def t62 : Stmt := (.ClassDef s64 [(.Name s38 ⟨99, 12, 99, 22⟩)] [] [(.Assign [(.Name s39 ⟨100, 4, 100, 8⟩)] (.Name s17 ⟨100, 11, 100, 18⟩) ⟨100, 4, 100, 18⟩), (.FunctionDef s20 a56 (mAt 27 1) [] none [] c57 none s20 ⟨102, 4, 106, 25⟩), (.FunctionDef s67 a58 (mAt 27 2) [(.Name s68 ⟨108, 5, 108, 13⟩)] none [] c21 none s67 ⟨109, 4, 110, 38⟩), (.FunctionDef s69 a59 (mAt 27 3) [] none [] c21 none s69 ⟨112, 4, 115, 44⟩), (.FunctionDef s70 a60 (mAt 27 4) [] none [] c25 none s70 ⟨117, 4, 121, 49⟩), (.FunctionDef s71 a61 (mAt 27 5) [] none [] c21 none s71 ⟨123, 4, 127, 27⟩)] [] [] ⟨.class, [(s39, .local), (s17, .globalImplicit), (s20, .local), (s67, .local), (s68, .globalImplicit), (s69, .local), (s70, .local), (s71, .local)], false, false, []⟩ none s64 [s66, s65, s35] ⟨99, 0, 127, 27⟩)
noncomputable def s72 : Str := ⟨⟨[nat_lit 115, nat_lit 112, nat_lit 111, nat_lit 116, nat_lit 95, nat_lit 111, nat_lit 102]⟩⟩
noncomputable def s73 : Str := ⟨⟨[nat_lit 111, nat_lit 119, nat_lit 110, nat_lit 101, nat_lit 114]⟩⟩
noncomputable def a63 : Arguments := ⟨[], [⟨s73, none, ⟨128, 12, 128, 17⟩⟩, ⟨s66, none, ⟨128, 19, 128, 24⟩⟩], none, [], [], none, []⟩
noncomputable def c64 : Scope := ⟨.function, [(s73, .local), (s66, .local), (s57, .local), (s7, .globalImplicit)], false, false, []⟩
noncomputable def t65 : Stmt := (.FunctionDef s72 a63 (bAt 28) [] none [] c64 none s72 ⟨128, 0, 132, 13⟩)
noncomputable def s74 : Str := ⟨⟨[nat_lit 111, nat_lit 112, nat_lit 101, nat_lit 110, nat_lit 95, nat_lit 97, nat_lit 116]⟩⟩
noncomputable def a66 : Arguments := ⟨[], [⟨s73, none, ⟨133, 12, 133, 17⟩⟩, ⟨s66, none, ⟨133, 19, 133, 24⟩⟩], none, [], [], none, []⟩
noncomputable def c67 : Scope := ⟨.function, [(s73, .local), (s66, .local), (s57, .local), (s72, .globalImplicit), (s7, .globalImplicit)], false, false, []⟩
noncomputable def t68 : Stmt := (.FunctionDef s74 a66 (bAt 29) [] none [] c67 none s74 ⟨133, 0, 137, 15⟩)
noncomputable def s75 : Str := ⟨⟨[nat_lit 112, nat_lit 117, nat_lit 116, nat_lit 95, nat_lit 111, nat_lit 112, nat_lit 101, nat_lit 110]⟩⟩
noncomputable def s76 : Str := ⟨⟨[nat_lit 117, nat_lit 112, nat_lit 118, nat_lit 97, nat_lit 108]⟩⟩
noncomputable def a69 : Arguments := ⟨[], [⟨s73, none, ⟨138, 13, 138, 18⟩⟩, ⟨s76, none, ⟨138, 20, 138, 25⟩⟩], none, [], [], none, []⟩
noncomputable def c70 : Scope := ⟨.function, [(s73, .local), (s76, .local), (s72, .globalImplicit)], false, false, []⟩
noncomputable def t71 : Stmt := (.FunctionDef s75 a69 (bAt 30) [] none [] c70 none s75 ⟨138, 0, 139, 64⟩)
noncomputable def s77 : Str := ⟨⟨[nat_lit 116, nat_lit 97, nat_lit 107, nat_lit 101, nat_lit 95, nat_lit 99, nat_lit 108, nat_lit 111, nat_lit 115, nat_lit 101, nat_lit 100]⟩⟩
noncomputable def s78 : Str := ⟨⟨[nat_lit 108, nat_lit 101, nat_lit 118, nat_lit 101, nat_lit 108]⟩⟩
noncomputable def a72 : Arguments := ⟨[], [⟨s73, none, ⟨140, 16, 140, 21⟩⟩, ⟨s78, none, ⟨140, 23, 140, 28⟩⟩], none, [], [], none, []⟩
noncomputable def c73 : Scope := ⟨.function, [(s73, .local), (s78, .local), (s56, .local), (s76, .local), (s7, .globalImplicit)], false, false, []⟩
noncomputable def t74 : Stmt := (.FunctionDef s77 a72 (bAt 31) [] none [] c73 none s77 ⟨140, 0, 146, 16⟩)
noncomputable def s79 : Str := ⟨⟨[nat_lit 108, nat_lit 117, nat_lit 97, nat_lit 46, nat_lit 111, nat_lit 98, nat_lit 106, nat_lit 101, nat_lit 99, nat_lit 116, nat_lit 115]⟩⟩
noncomputable def t75 : Stmt := (.Assign [(.Name s2 ⟨147, 0, 147, 8⟩)] (.Constant (.str s79) 0 ⟨147, 11, 147, 24⟩) ⟨147, 0, 147, 24⟩)
noncomputable def s80 : Str := ⟨⟨[nat_lit 84, nat_lit 72, nat_lit 82, nat_lit 69, nat_lit 65, nat_lit 68, nat_lit 95, nat_lit 79, nat_lit 75]⟩⟩
noncomputable def t76 : Stmt := (.Assign [(.Name s80 ⟨148, 0, 148, 9⟩)] (.Constant (.int 0) 0 ⟨148, 12, 148, 13⟩) ⟨148, 0, 148, 13⟩)
noncomputable def s81 : Str := ⟨⟨[nat_lit 77, nat_lit 85, nat_lit 76, nat_lit 84, nat_lit 73, nat_lit 80, nat_lit 76, nat_lit 69]⟩⟩
noncomputable def t77 : Stmt := (.Assign [(.Name s81 ⟨149, 0, 149, 8⟩)] (.UnaryOp .USub (.Constant (.int 1) 0 ⟨149, 12, 149, 13⟩) ⟨149, 11, 149, 13⟩) ⟨149, 0, 149, 13⟩)
noncomputable def s82 : Str := ⟨⟨[nat_lit 77, nat_lit 73, nat_lit 78, nat_lit 95, nat_lit 83, nat_lit 84, nat_lit 65, nat_lit 67, nat_lit 75]⟩⟩
noncomputable def t78 : Stmt := (.Assign [(.Name s82 ⟨150, 0, 150, 9⟩)] (.Constant (.int 20) 0 ⟨150, 12, 150, 14⟩) ⟨150, 0, 150, 14⟩)
noncomputable def s83 : Str := ⟨⟨[nat_lit 83, nat_lit 73, nat_lit 90, nat_lit 69, nat_lit 95, nat_lit 84, nat_lit 72, nat_lit 82, nat_lit 69, nat_lit 65, nat_lit 68]⟩⟩
noncomputable def t79 : Stmt := (.Assign [(.Name s83 ⟨151, 0, 151, 11⟩)] (.Constant (.int 20) 0 ⟨151, 14, 151, 16⟩) ⟨151, 0, 151, 16⟩)
noncomputable def s84 : Str := ⟨⟨[nat_lit 67, nat_lit 97, nat_lit 108, nat_lit 108, nat_lit 73, nat_lit 110, nat_lit 102, nat_lit 111]⟩⟩
noncomputable def s85 : Str := ⟨⟨[nat_lit 102, nat_lit 117, nat_lit 110, nat_lit 99]⟩⟩
noncomputable def s86 : Str := ⟨⟨[nat_lit 98, nat_lit 97, nat_lit 115, nat_lit 101]⟩⟩
noncomputable def s87 : Str := ⟨⟨[nat_lit 116, nat_lit 111, nat_lit 112]⟩⟩
noncomputable def s88 : Str := ⟨⟨[nat_lit 119, nat_lit 97, nat_lit 110, nat_lit 116, nat_lit 101, nat_lit 100]⟩⟩
noncomputable def a80 : Arguments := ⟨[], [⟨s21, none, ⟨154, 17, 154, 21⟩⟩, ⟨s85, none, ⟨154, 23, 154, 27⟩⟩, ⟨s86, none, ⟨154, 29, 154, 33⟩⟩, ⟨s87, none, ⟨154, 35, 154, 38⟩⟩, ⟨s88, none, ⟨154, 40, 154, 46⟩⟩], none, [], [], none, []⟩
noncomputable def c81 : Scope := ⟨.function, [(s21, .local), (s85, .local), (s86, .local), (s87, .local), (s88, .local)], false, false, []⟩
noncomputable def s89 : Str := ⟨⟨[nat_lit 105, nat_lit 115, nat_lit 95, nat_lit 108, nat_lit 117, nat_lit 97]⟩⟩
noncomputable def a82 : Arguments := ⟨[], [⟨s21, none, ⟨163, 15, 163, 19⟩⟩, ⟨s65, none, ⟨163, 21, 163, 27⟩⟩], none, [], [], none, []⟩
noncomputable def c83 : Scope := ⟨.function, [(s21, .local), (s65, .local), (s0, .globalImplicit)], false, false, []⟩
noncomputable def s90 : Str := ⟨⟨[nat_lit 99, nat_lit 111, nat_lit 112, nat_lit 105, nat_lit 101, nat_lit 100]⟩⟩
noncomputable def a84 : Arguments := ⟨[], [⟨s21, none, ⟨166, 15, 166, 19⟩⟩], none, [], [], none, []⟩
noncomputable def c85 : Scope := ⟨.function, [(s21, .local), (s0, .globalImplicit)], false, false, []⟩
noncomputable def s91 : Str := ⟨⟨[nat_lit 105, nat_lit 115, nat_lit 95, nat_lit 102, nat_lit 114, nat_lit 101, nat_lit 115, nat_lit 104]⟩⟩
noncomputable def s92 : Str := ⟨⟨[nat_lit 112, nat_lit 99]⟩⟩
noncomputable def s93 : Str := ⟨⟨[nat_lit 116, nat_lit 97, nat_lit 105, nat_lit 108, nat_lit 115]⟩⟩
noncomputable def t86 : Stmt := (.ClassDef s84 [] [] [(.FunctionDef s20 a80 (mAt 37 0) [] none [] c81 none s20 ⟨154, 4, 161, 29⟩), (.FunctionDef s89 a82 (mAt 37 1) [] none [] c83 none s89 ⟨163, 4, 164, 16⟩), (.FunctionDef s90 a84 (mAt 37 2) [] none [] c85 none s90 ⟨166, 4, 167, 16⟩)] [] [] ⟨.class, [(s20, .local), (s89, .local), (s90, .local)], false, false, []⟩ none s84 [s86, s85, s91, s92, s93, s87, s88] ⟨152, 0, 167, 16⟩)
noncomputable def s94 : Str := ⟨⟨[nat_lit 84, nat_lit 104, nat_lit 114, nat_lit 101, nat_lit 97, nat_lit 100]⟩⟩
noncomputable def s95 : Str := ⟨⟨[nat_lit 103, nat_lit 108, nat_lit 111, nat_lit 98]⟩⟩
noncomputable def a87 : Arguments := ⟨[], [⟨s21, none, ⟨171, 17, 171, 21⟩⟩, ⟨s95, none, ⟨171, 23, 171, 27⟩⟩], none, [], [], none, []⟩
noncomputable def c88 : Scope := ⟨.function, [(s21, .local), (s95, .local), (s38, .globalImplicit), (s83, .globalImplicit), (s82, .globalImplicit), (s80, .globalImplicit)], false, false, []⟩
noncomputable def s96 : Str := ⟨⟨[nat_lit 102, nat_lit 114, nat_lit 97, nat_lit 109, nat_lit 101]⟩⟩
noncomputable def a89 : Arguments := ⟨[], [⟨s21, none, ⟨191, 14, 191, 18⟩⟩], none, [], [], none, []⟩
noncomputable def c90 : Scope := ⟨.function, [(s21, .local), (s7, .globalImplicit)], false, false, []⟩
noncomputable def s97 : Str := ⟨⟨[nat_lit 102, nat_lit 114, nat_lit 97, nat_lit 109, nat_lit 101, nat_lit 95, nat_lit 99, nat_lit 111, nat_lit 117, nat_lit 110, nat_lit 116]⟩⟩
noncomputable def a91 : Arguments := ⟨[], [⟨s21, none, ⟨195, 20, 195, 24⟩⟩], none, [], [], none, []⟩
noncomputable def s98 : Str := ⟨⟨[nat_lit 103, nat_lit 114, nat_lit 111, nat_lit 117, nat_lit 110, nat_lit 100]⟩⟩
noncomputable def a92 : Arguments := ⟨[], [⟨s21, none, ⟨198, 15, 198, 19⟩⟩], none, [], [], none, []⟩
noncomputable def c93 : Scope := ⟨.function, [(s21, .local), (s82, .globalImplicit), (s81, .globalImplicit)], false, false, []⟩
noncomputable def s99 : Str := ⟨⟨[nat_lit 103, nat_lit 114, nat_lit 111, nat_lit 119]⟩⟩
noncomputable def a94 : Arguments := ⟨[], [⟨s21, none, ⟨202, 13, 202, 17⟩⟩, ⟨s41, none, ⟨202, 19, 202, 23⟩⟩], none, [], [], none, []⟩
noncomputable def s100 : Str := ⟨⟨[nat_lit 108, nat_lit 97, nat_lit 99, nat_lit 107, nat_lit 105, nat_lit 110, nat_lit 103]⟩⟩
noncomputable def c95 : Scope := ⟨.function, [(s21, .local), (s41, .local), (s100, .local), (s7, .globalImplicit)], false, false, []⟩
noncomputable def s101 : Str := ⟨⟨[nat_lit 112, nat_lit 117, nat_lit 115, nat_lit 104]⟩⟩
noncomputable def a96 : Arguments := ⟨[], [⟨s21, none, ⟨207, 13, 207, 17⟩⟩, ⟨s35, none, ⟨207, 19, 207, 24⟩⟩], none, [], [], none, []⟩
noncomputable def c97 : Scope := ⟨.function, [(s21, .local), (s35, .local), (s7, .globalImplicit)], false, false, []⟩
noncomputable def s102 : Str := ⟨⟨[nat_lit 112, nat_lit 111, nat_lit 112]⟩⟩
noncomputable def a98 : Arguments := ⟨[], [⟨s21, none, ⟨213, 12, 213, 16⟩⟩], none, [], [], none, []⟩
noncomputable def s103 : Str := ⟨⟨[nat_lit 115, nat_lit 101, nat_lit 116, nat_lit 95, nat_lit 116, nat_lit 111, nat_lit 112]⟩⟩
noncomputable def a99 : Arguments := ⟨[], [⟨s21, none, ⟨219, 16, 219, 20⟩⟩, ⟨s87, none, ⟨219, 22, 219, 25⟩⟩], none, [], [], none, []⟩
noncomputable def s104 : Str := ⟨⟨[nat_lit 102, nat_lit 105, nat_lit 114, nat_lit 115, nat_lit 116]⟩⟩
noncomputable def s105 : Str := ⟨⟨[nat_lit 108, nat_lit 97, nat_lit 115, nat_lit 116]⟩⟩
noncomputable def s106 : Str := ⟨⟨[nat_lit 109, nat_lit 105, nat_lit 110]⟩⟩
noncomputable def s107 : Str := ⟨⟨[nat_lit 109, nat_lit 97, nat_lit 120]⟩⟩
noncomputable def s108 : Str := ⟨⟨[nat_lit 114, nat_lit 97, nat_lit 110, nat_lit 103, nat_lit 101]⟩⟩
noncomputable def c100 : Scope := ⟨.function, [(s21, .local), (s87, .local), (s104, .local), (s105, .local), (s57, .local), (s106, .globalImplicit), (s107, .globalImplicit), (s108, .globalImplicit), (s7, .globalImplicit)], false, false, []⟩
noncomputable def s109 : Str := ⟨⟨[nat_lit 118, nat_lit 97, nat_lit 108, nat_lit 117, nat_lit 101, nat_lit 115]⟩⟩
noncomputable def a101 : Arguments := ⟨[], [⟨s21, none, ⟨226, 15, 226, 19⟩⟩, ⟨s104, none, ⟨226, 21, 226, 26⟩⟩, ⟨s105, none, ⟨226, 28, 226, 32⟩⟩], none, [], [], none, []⟩
noncomputable def c102 : Scope := ⟨.function, [(s21, .local), (s104, .local), (s105, .local)], false, false, []⟩
noncomputable def s110 : Str := ⟨⟨[nat_lit 105, nat_lit 110, nat_lit 115, nat_lit 101, nat_lit 114, nat_lit 116]⟩⟩
noncomputable def a103 : Arguments := ⟨[], [⟨s21, none, ⟨229, 15, 229, 19⟩⟩, ⟨s66, none, ⟨229, 21, 229, 26⟩⟩, ⟨s35, none, ⟨229, 28, 229, 33⟩⟩], none, [], [], none, []⟩
noncomputable def c104 : Scope := ⟨.function, [(s21, .local), (s66, .local), (s35, .local), (s57, .local), (s108, .globalImplicit)], false, false, []⟩
noncomputable def s111 : Str := ⟨⟨[nat_lit 114, nat_lit 101, nat_lit 109, nat_lit 111, nat_lit 118, nat_lit 101]⟩⟩
noncomputable def a105 : Arguments := ⟨[], [⟨s21, none, ⟨236, 15, 236, 19⟩⟩, ⟨s66, none, ⟨236, 21, 236, 26⟩⟩], none, [], [], none, []⟩
noncomputable def c106 : Scope := ⟨.function, [(s21, .local), (s66, .local), (s0, .globalImplicit)], false, false, []⟩
noncomputable def s112 : Str := ⟨⟨[nat_lit 112, nat_lit 117, nat_lit 115, nat_lit 104, nat_lit 95, nat_lit 102, nat_lit 114, nat_lit 97, nat_lit 109, nat_lit 101]⟩⟩
noncomputable def a107 : Arguments := ⟨[], [⟨s21, none, ⟨239, 19, 239, 23⟩⟩, ⟨s85, none, ⟨239, 25, 239, 29⟩⟩, ⟨s86, none, ⟨239, 31, 239, 35⟩⟩, ⟨s87, none, ⟨239, 37, 239, 40⟩⟩, ⟨s88, none, ⟨239, 42, 239, 48⟩⟩], none, [], [], none, []⟩
noncomputable def c108 : Scope := ⟨.function, [(s21, .local), (s85, .local), (s86, .local), (s87, .local), (s88, .local), (s96, .local), (s84, .globalImplicit)], false, false, []⟩
noncomputable def s113 : Str := ⟨⟨[nat_lit 112, nat_lit 111, nat_lit 112, nat_lit 95, nat_lit 102, nat_lit 114, nat_lit 97, nat_lit 109, nat_lit 101]⟩⟩
noncomputable def a109 : Arguments := ⟨[], [⟨s21, none, ⟨245, 18, 245, 22⟩⟩], none, [], [], none, []⟩
noncomputable def s114 : Str := ⟨⟨[nat_lit 102, nat_lit 117, nat_lit 110, nat_lit 99, nat_lit 116, nat_lit 105, nat_lit 111, nat_lit 110, nat_lit 95, nat_lit 97, nat_lit 116]⟩⟩
noncomputable def a110 : Arguments := ⟨[], [⟨s21, none, ⟨248, 20, 248, 24⟩⟩, ⟨s96, none, ⟨248, 26, 248, 31⟩⟩], none, [], [], none, []⟩
noncomputable def c111 : Scope := ⟨.function, [(s21, .local), (s96, .local), (s0, .globalImplicit)], false, false, []⟩
noncomputable def s115 : Str := ⟨⟨[nat_lit 115, nat_lit 104, nat_lit 114, nat_lit 105, nat_lit 110, nat_lit 107]⟩⟩
noncomputable def a112 : Arguments := ⟨[], [⟨s21, none, ⟨251, 15, 251, 19⟩⟩], none, [], [], none, []⟩
noncomputable def s116 : Str := ⟨⟨[nat_lit 97, nat_lit 110, nat_lit 115, nat_lit 119, nat_lit 101, nat_lit 114, nat_lit 115]⟩⟩
noncomputable def s117 : Str := ⟨⟨[nat_lit 98, nat_lit 97, nat_lit 115, nat_lit 101, nat_lit 95, nat_lit 99, nat_lit 99, nat_lit 97, nat_lit 108, nat_lit 108, nat_lit 115]⟩⟩
noncomputable def s118 : Str := ⟨⟨[nat_lit 101, nat_lit 114, nat_lit 114, nat_lit 111, nat_lit 114]⟩⟩
noncomputable def s119 : Str := ⟨⟨[nat_lit 103, nat_lit 108, nat_lit 111, nat_lit 98, nat_lit 97, nat_lit 108, nat_lit 115]⟩⟩
noncomputable def s120 : Str := ⟨⟨[nat_lit 104, nat_lit 97, nat_lit 110, nat_lit 100, nat_lit 108, nat_lit 105, nat_lit 110, nat_lit 103]⟩⟩
noncomputable def s121 : Str := ⟨⟨[nat_lit 105, nat_lit 115, nat_lit 95, nat_lit 111, nat_lit 118, nat_lit 101, nat_lit 114]⟩⟩
noncomputable def s122 : Str := ⟨⟨[nat_lit 111, nat_lit 112, nat_lit 101, nat_lit 110, nat_lit 95, nat_lit 117, nat_lit 112, nat_lit 118, nat_lit 97, nat_lit 108, nat_lit 115]⟩⟩
noncomputable def s123 : Str := ⟨⟨[nat_lit 114, nat_lit 101, nat_lit 115, nat_lit 117, nat_lit 109, nat_lit 101, nat_lit 114]⟩⟩
noncomputable def s124 : Str := ⟨⟨[nat_lit 115, nat_lit 116, nat_lit 97, nat_lit 116, nat_lit 101]⟩⟩
noncomputable def s125 : Str := ⟨⟨[nat_lit 115, nat_lit 116, nat_lit 97, nat_lit 116, nat_lit 117, nat_lit 115]⟩⟩
noncomputable def s126 : Str := ⟨⟨[nat_lit 121, nat_lit 105, nat_lit 101, nat_lit 108, nat_lit 100, nat_lit 101, nat_lit 100]⟩⟩
noncomputable def t113 : Stmt := (.ClassDef s94 [(.Name s38 ⟨168, 13, 168, 23⟩)] [] [(.Assign [(.Name s39 ⟨169, 4, 169, 8⟩)] (.Name s16 ⟨169, 11, 169, 19⟩) ⟨169, 4, 169, 19⟩), (.FunctionDef s20 a87 (mAt 38 1) [] none [] c88 none s20 ⟨171, 4, 188, 25⟩), (.FunctionDef s96 a89 (mAt 38 2) [(.Name s68 ⟨190, 5, 190, 13⟩)] none [] c90 none s96 ⟨191, 4, 192, 64⟩), (.FunctionDef s97 a91 (mAt 38 3) [(.Name s68 ⟨194, 5, 194, 13⟩)] none [] c85 none s97 ⟨195, 4, 196, 16⟩), (.FunctionDef s98 a92 (mAt 38 4) [] none [] c93 none s98 ⟨198, 4, 200, 61⟩), (.FunctionDef s99 a94 (mAt 38 5) [] none [] c95 none s99 ⟨202, 4, 205, 47⟩), (.FunctionDef s101 a96 (mAt 38 6) [] none [] c97 none s101 ⟨207, 4, 211, 21⟩), (.FunctionDef s102 a98 (mAt 38 7) [] none [] c25 none s102 ⟨213, 4, 217, 20⟩), (.FunctionDef s103 a99 (mAt 38 8) [] none [] c100 none s103 ⟨219, 4, 224, 22⟩), (.FunctionDef s109 a101 (mAt 38 9) [] none [] c102 none s109 ⟨226, 4, 227, 37⟩), (.FunctionDef s110 a103 (mAt 38 10) [] none [] c104 none s110 ⟨229, 4, 234, 21⟩), (.FunctionDef s111 a105 (mAt 38 11) [] none [] c106 none s111 ⟨236, 4, 237, 16⟩), (.FunctionDef s112 a107 (mAt 38 12) [] none [] c108 none s112 ⟨239, 4, 243, 20⟩), (.FunctionDef s113 a109 (mAt 38 13) [] none [] c85 none s113 ⟨245, 4, 246, 16⟩), (.FunctionDef s114 a110 (mAt 38 14) [] none [] c111 none s114 ⟨248, 4, 249, 16⟩), (.FunctionDef s115 a112 (mAt 38 15) [] none [] c85 none s115 ⟨251, 4, 252, 16⟩)] [] [] ⟨.class, [(s39, .local), (s16, .globalImplicit), (s20, .local), (s96, .local), (s68, .globalImplicit), (s97, .local), (s98, .local), (s99, .local), (s101, .local), (s102, .local), (s103, .local), (s109, .local), (s110, .local), (s111, .local), (s112, .local), (s113, .local), (s114, .local), (s115, .local)], false, false, []⟩ none s94 [s116, s117, s26, s118, s5, s95, s119, s120, s121, s122, s123, s27, s124, s125, s87, s126] ⟨168, 0, 252, 16⟩)
noncomputable def s127 : Str := ⟨⟨[nat_lit 71, nat_lit 108, nat_lit 111, nat_lit 98, nat_lit 97, nat_lit 108]⟩⟩
noncomputable def s128 : Str := ⟨⟨[nat_lit 108, nat_lit 105, nat_lit 109, nat_lit 105, nat_lit 116, nat_lit 115]⟩⟩
noncomputable def a114 : Arguments := ⟨[], [⟨s21, none, ⟨255, 17, 255, 21⟩⟩, ⟨s128, none, ⟨255, 23, 255, 29⟩⟩], none, [], [], none, []⟩
noncomputable def c115 : Scope := ⟨.function, [(s21, .local), (s128, .local)], false, false, []⟩
noncomputable def s129 : Str := ⟨⟨[nat_lit 110, nat_lit 101, nat_lit 120, nat_lit 116, nat_lit 95, nat_lit 110, nat_lit 117, nat_lit 109, nat_lit 98, nat_lit 101, nat_lit 114]⟩⟩
noncomputable def a116 : Arguments := ⟨[], [⟨s21, none, ⟨267, 20, 267, 24⟩⟩], none, [], [], none, []⟩
noncomputable def s130 : Str := ⟨⟨[nat_lit 104, nat_lit 101, nat_lit 97, nat_lit 112]⟩⟩
noncomputable def s131 : Str := ⟨⟨[nat_lit 108, nat_lit 97, nat_lit 115, nat_lit 116, nat_lit 95, nat_lit 110, nat_lit 117, nat_lit 109, nat_lit 98, nat_lit 101, nat_lit 114]⟩⟩
noncomputable def s132 : Str := ⟨⟨[nat_lit 109, nat_lit 97, nat_lit 105, nat_lit 110]⟩⟩
noncomputable def s133 : Str := ⟨⟨[nat_lit 109, nat_lit 101, nat_lit 116, nat_lit 97, nat_lit 115]⟩⟩
noncomputable def s134 : Str := ⟨⟨[nat_lit 111, nat_lit 117, nat_lit 116]⟩⟩
noncomputable def s135 : Str := ⟨⟨[nat_lit 112, nat_lit 97, nat_lit 110, nat_lit 105, nat_lit 99]⟩⟩
noncomputable def s136 : Str := ⟨⟨[nat_lit 114, nat_lit 101, nat_lit 103, nat_lit 105, nat_lit 115, nat_lit 116, nat_lit 114, nat_lit 121]⟩⟩
noncomputable def s137 : Str := ⟨⟨[nat_lit 118, nat_lit 109]⟩⟩
noncomputable def t117 : Stmt := (.ClassDef s127 [] [] [(.FunctionDef s20 a114 (mAt 39 0) [] none [] c115 none s20 ⟨255, 4, 265, 28⟩), (.FunctionDef s129 a116 (mAt 39 1) [] none [] c85 none s129 ⟨267, 4, 268, 16⟩)] [] [] ⟨.class, [(s20, .local), (s129, .local)], false, false, []⟩ none s127 [s130, s131, s128, s132, s133, s134, s135, s136, s29, s137] ⟨253, 0, 268, 16⟩)
noncomputable def s138 : Str := ⟨⟨[nat_lit 102, nat_lit 105, nat_lit 110, nat_lit 100, nat_lit 95, nat_lit 117, nat_lit 112, nat_lit 118, nat_lit 97, nat_lit 108]⟩⟩
noncomputable def a118 : Arguments := ⟨[], [⟨s65, none, ⟨269, 15, 269, 21⟩⟩, ⟨s66, none, ⟨269, 23, 269, 28⟩⟩], none, [], [], none, []⟩
noncomputable def c119 : Scope := ⟨.function, [(s65, .local), (s66, .local), (s56, .local), (s74, .globalImplicit), (s75, .globalImplicit)], false, false, []⟩
noncomputable def t120 : Stmt := (.FunctionDef s138 a118 (bAt 40) [] none [] c119 none s138 ⟨269, 0, 276, 16⟩)
noncomputable def s139 : Str := ⟨⟨[nat_lit 99, nat_lit 108, nat_lit 111, nat_lit 115, nat_lit 101, nat_lit 95, nat_lit 117, nat_lit 112, nat_lit 118, nat_lit 97, nat_lit 108, nat_lit 115]⟩⟩
noncomputable def a121 : Arguments := ⟨[], [⟨s65, none, ⟨277, 17, 277, 23⟩⟩, ⟨s78, none, ⟨277, 25, 277, 30⟩⟩], none, [], [], none, []⟩
noncomputable def c122 : Scope := ⟨.function, [(s65, .local), (s78, .local), (s76, .local), (s77, .globalImplicit)], false, false, []⟩
noncomputable def t123 : Stmt := (.FunctionDef s139 a121 (bAt 41) [] none [] c122 none s139 ⟨277, 0, 279, 44⟩)
noncomputable def s140 : Str := ⟨⟨[nat_lit 108, nat_lit 117, nat_lit 97, nat_lit 46, nat_lit 99, nat_lit 111, nat_lit 108, nat_lit 108, nat_lit 101, nat_lit 99, nat_lit 116, nat_lit 111, nat_lit 114]⟩⟩
noncomputable def t124 : Stmt := (.Assign [(.Name s2 ⟨280, 0, 280, 8⟩)] (.Constant (.str s140) 0 ⟨280, 11, 280, 26⟩) ⟨280, 0, 280, 26⟩)
noncomputable def s141 : Str := ⟨⟨[nat_lit 103, nat_lit 114, nat_lit 111, nat_lit 117, nat_lit 110, nat_lit 100, nat_lit 101, nat_lit 100]⟩⟩
noncomputable def a125 : Arguments := ⟨[], [⟨s65, none, ⟨281, 13, 281, 19⟩⟩], none, [], [], none, []⟩
noncomputable def c126 : Scope := ⟨.function, [(s65, .local), (s139, .globalImplicit), (s4, .globalImplicit), (s106, .globalImplicit)], false, false, []⟩
noncomputable def t127 : Stmt := (.FunctionDef s141 a125 (bAt 43) [] none [] c126 none s141 ⟨281, 0, 285, 38⟩)
noncomputable def s142 : Str := ⟨⟨[nat_lit 108, nat_lit 117, nat_lit 97, nat_lit 46, nat_lit 109, nat_lit 101, nat_lit 116, nat_lit 97]⟩⟩
noncomputable def t128 : Stmt := (.Assign [(.Name s2 ⟨286, 0, 286, 8⟩)] (.Constant (.str s142) 0 ⟨286, 11, 286, 21⟩) ⟨286, 0, 286, 21⟩)
noncomputable def s143 : Str := ⟨⟨[nat_lit 119, nat_lit 101, nat_lit 97, nat_lit 107, nat_lit 95, nat_lit 109, nat_lit 111, nat_lit 100, nat_lit 101]⟩⟩
noncomputable def s144 : Str := ⟨⟨[nat_lit 109, nat_lit 101, nat_lit 116, nat_lit 97]⟩⟩
noncomputable def a129 : Arguments := ⟨[], [⟨s144, none, ⟨287, 14, 287, 18⟩⟩], none, [], [], none, []⟩
noncomputable def s145 : Str := ⟨⟨[nat_lit 109, nat_lit 111, nat_lit 100, nat_lit 101]⟩⟩
noncomputable def s146 : Str := ⟨⟨[nat_lit 122, nat_lit 101, nat_lit 114, nat_lit 111]⟩⟩
noncomputable def s147 : Str := ⟨⟨[nat_lit 115, nat_lit 105, nat_lit 103, nat_lit 110]⟩⟩
noncomputable def c130 : Scope := ⟨.function, [(s144, .local), (s145, .local), (s146, .local), (s56, .local), (s147, .local), (s45, .globalImplicit), (s49, .globalImplicit)], false, false, []⟩
noncomputable def t131 : Stmt := (.FunctionDef s143 a129 (bAt 45) [] none [] c130 none s143 ⟨287, 0, 296, 16⟩)
noncomputable def s148 : Str := ⟨⟨[nat_lit 108, nat_lit 117, nat_lit 97, nat_lit 46, nat_lit 116, nat_lit 97, nat_lit 98, nat_lit 108, nat_lit 101, nat_lit 115]⟩⟩
noncomputable def t132 : Stmt := (.Assign [(.Name s2 ⟨297, 0, 297, 8⟩)] (.Constant (.str s148) 0 ⟨297, 11, 297, 23⟩) ⟨297, 0, 297, 23⟩)
noncomputable def s149 : Str := ⟨⟨[nat_lit 77, nat_lit 65, nat_lit 88, nat_lit 95, nat_lit 66, nat_lit 73, nat_lit 84, nat_lit 83]⟩⟩
noncomputable def t133 : Stmt := (.Assign [(.Name s149 ⟨298, 0, 298, 8⟩)] (.Constant (.int 26) 0 ⟨298, 11, 298, 13⟩) ⟨298, 0, 298, 13⟩)
noncomputable def s150 : Str := ⟨⟨[nat_lit 77, nat_lit 65, nat_lit 88, nat_lit 95, nat_lit 65, nat_lit 82, nat_lit 82, nat_lit 65, nat_lit 89]⟩⟩
noncomputable def t134 : Stmt := (.Assign [(.Name s150 ⟨299, 0, 299, 9⟩)] (.BinOp (.Constant (.int 1) 0 ⟨299, 12, 299, 13⟩) .LShift (.Name s149 ⟨299, 17, 299, 25⟩) ⟨299, 12, 299, 25⟩) ⟨299, 0, 299, 25⟩)
noncomputable def s151 : Str := ⟨⟨[nat_lit 77, nat_lit 79, nat_lit 83, nat_lit 84, nat_lit 95, nat_lit 83, nat_lit 76, nat_lit 79, nat_lit 84, nat_lit 83]⟩⟩
noncomputable def t135 : Stmt := (.Assign [(.Name s151 ⟨300, 0, 300, 10⟩)] (.BinOp (.Constant (.int 1) 0 ⟨300, 13, 300, 14⟩) .LShift (.Constant (.int 22) 0 ⟨300, 18, 300, 20⟩) ⟨300, 13, 300, 20⟩) ⟨300, 0, 300, 20⟩)
noncomputable def s152 : Str := ⟨⟨[nat_lit 77, nat_lit 79, nat_lit 83, nat_lit 84, nat_lit 95, nat_lit 80, nat_lit 76, nat_lit 65, nat_lit 67, nat_lit 69, nat_lit 83]⟩⟩
noncomputable def t136 : Stmt := (.Assign [(.Name s152 ⟨301, 0, 301, 11⟩)] (.BinOp (.Constant (.int 1) 0 ⟨301, 14, 301, 15⟩) .LShift (.Constant (.int 20) 0 ⟨301, 19, 301, 21⟩) ⟨301, 14, 301, 21⟩) ⟨301, 0, 301, 21⟩)
noncomputable def s153 : Str := ⟨⟨[nat_lit 66, nat_lit 65, nat_lit 83, nat_lit 69, nat_lit 95, nat_lit 83, nat_lit 73, nat_lit 90, nat_lit 69]⟩⟩
noncomputable def t137 : Stmt := (.Assign [(.Name s153 ⟨302, 0, 302, 9⟩)] (.Constant (.int 56) 0 ⟨302, 12, 302, 14⟩) ⟨302, 0, 302, 14⟩)
noncomputable def s154 : Str := ⟨⟨[nat_lit 83, nat_lit 76, nat_lit 79, nat_lit 84, nat_lit 95, nat_lit 83, nat_lit 73, nat_lit 90, nat_lit 69]⟩⟩
noncomputable def t138 : Stmt := (.Assign [(.Name s154 ⟨303, 0, 303, 9⟩)] (.Constant (.int 16) 0 ⟨303, 12, 303, 14⟩) ⟨303, 0, 303, 14⟩)
noncomputable def s155 : Str := ⟨⟨[nat_lit 78, nat_lit 79, nat_lit 68, nat_lit 69, nat_lit 95, nat_lit 83, nat_lit 73, nat_lit 90, nat_lit 69]⟩⟩
noncomputable def t139 : Stmt := (.Assign [(.Name s155 ⟨304, 0, 304, 9⟩)] (.Constant (.int 32) 0 ⟨304, 12, 304, 14⟩) ⟨304, 0, 304, 14⟩)
noncomputable def s156 : Str := ⟨⟨[nat_lit 68, nat_lit 101, nat_lit 97, nat_lit 100, nat_lit 75, nat_lit 101, nat_lit 121]⟩⟩
noncomputable def a140 : Arguments := ⟨[], [⟨s21, none, ⟨307, 17, 307, 21⟩⟩, ⟨s40, none, ⟨307, 23, 307, 29⟩⟩], none, [], [], none, []⟩
noncomputable def t141 : Stmt := (.ClassDef s156 [] [] [(.FunctionDef s20 a140 (mAt 54 0) [] none [] c31 none s20 ⟨307, 4, 308, 28⟩)] [] [] ⟨.class, [(s20, .local)], false, false, []⟩ none s156 [s40] ⟨305, 0, 308, 28⟩)
noncomputable def s157 : Str := ⟨⟨[nat_lit 78, nat_lit 111, nat_lit 100, nat_lit 101]⟩⟩
noncomputable def a142 : Arguments := ⟨[], [⟨s21, none, ⟨311, 17, 311, 21⟩⟩], none, [], [], none, []⟩
noncomputable def s158 : Str := ⟨⟨[nat_lit 109, nat_lit 111, nat_lit 118, nat_lit 101, nat_lit 100, nat_lit 95, nat_lit 116, nat_lit 111]⟩⟩
noncomputable def s159 : Str := ⟨⟨[nat_lit 111, nat_lit 116, nat_lit 104, nat_lit 101, nat_lit 114]⟩⟩
noncomputable def a143 : Arguments := ⟨[], [⟨s21, none, ⟨316, 17, 316, 21⟩⟩, ⟨s159, none, ⟨316, 23, 316, 28⟩⟩], none, [], [], none, []⟩
noncomputable def c144 : Scope := ⟨.function, [(s21, .local), (s159, .local)], false, false, []⟩
noncomputable def s160 : Str := ⟨⟨[nat_lit 107, nat_lit 101, nat_lit 121]⟩⟩
noncomputable def s161 : Str := ⟨⟨[nat_lit 110, nat_lit 101, nat_lit 120, nat_lit 116]⟩⟩
noncomputable def t145 : Stmt := (.ClassDef s157 [] [] [(.FunctionDef s20 a142 (mAt 55 0) [] none [] c21 none s20 ⟨311, 4, 314, 22⟩), (.FunctionDef s158 a143 (mAt 55 1) [] none [] c144 none s158 ⟨316, 4, 319, 30⟩)] [] [] ⟨.class, [(s20, .local), (s158, .local)], false, false, []⟩ none s157 [s160, s161, s35] ⟨309, 0, 319, 30⟩)
noncomputable def s162 : Str := ⟨⟨[nat_lit 97, nat_lit 114, nat_lit 114, nat_lit 97, nat_lit 121, nat_lit 95, nat_lit 105, nat_lit 110, nat_lit 100, nat_lit 101, nat_lit 120]⟩⟩
noncomputable def a146 : Arguments := ⟨[], [⟨s160, none, ⟨320, 16, 320, 19⟩⟩], none, [], [], none, []⟩
noncomputable def c147 : Scope := ⟨.function, [(s160, .local), (s44, .globalImplicit)], false, false, []⟩
noncomputable def t148 : Stmt := (.FunctionDef s162 a146 (bAt 56) [] none [] c147 none s162 ⟨320, 0, 321, 40⟩)
noncomputable def s163 : Str := ⟨⟨[nat_lit 99, nat_lit 111, nat_lit 109, nat_lit 112, nat_lit 117, nat_lit 116, nat_lit 101, nat_lit 95, nat_lit 115, nat_lit 105, nat_lit 122, nat_lit 101, nat_lit 115]⟩⟩
noncomputable def s164 : Str := ⟨⟨[nat_lit 99, nat_lit 111, nat_lit 117, nat_lit 110, nat_lit 116, nat_lit 115]⟩⟩
noncomputable def a149 : Arguments := ⟨[], [⟨s164, none, ⟨322, 18, 322, 24⟩⟩, ⟨s88, none, ⟨322, 26, 322, 32⟩⟩], none, [], [], none, []⟩
noncomputable def s165 : Str := ⟨⟨[nat_lit 103, nat_lit 97, nat_lit 116, nat_lit 104, nat_lit 101, nat_lit 114, nat_lit 101, nat_lit 100]⟩⟩
noncomputable def s166 : Str := ⟨⟨[nat_lit 117, nat_lit 115, nat_lit 101, nat_lit 100]⟩⟩
noncomputable def s167 : Str := ⟨⟨[nat_lit 112, nat_lit 111, nat_lit 119, nat_lit 101, nat_lit 114]⟩⟩
noncomputable def s168 : Str := ⟨⟨[nat_lit 99, nat_lit 111, nat_lit 117, nat_lit 110, nat_lit 116]⟩⟩
noncomputable def c150 : Scope := ⟨.function, [(s164, .local), (s88, .local), (s165, .local), (s166, .local), (s41, .local), (s167, .local), (s168, .local)], false, false, []⟩
noncomputable def t151 : Stmt := (.FunctionDef s163 a149 (bAt 57) [] none [] c150 none s163 ⟨322, 0, 338, 23⟩)
noncomputable def s169 : Str := ⟨⟨[nat_lit 99, nat_lit 111, nat_lit 117, nat_lit 110, nat_lit 116, nat_lit 95, nat_lit 107, nat_lit 101, nat_lit 121]⟩⟩
noncomputable def a152 : Arguments := ⟨[], [⟨s160, none, ⟨339, 14, 339, 17⟩⟩, ⟨s164, none, ⟨339, 19, 339, 25⟩⟩], none, [], [], none, []⟩
noncomputable def c153 : Scope := ⟨.function, [(s160, .local), (s164, .local), (s57, .local), (s162, .globalImplicit), (s150, .globalImplicit), (s61, .globalImplicit)], false, false, []⟩
noncomputable def t154 : Stmt := (.FunctionDef s169 a152 (bAt 58) [] none [] c153 none s169 ⟨339, 0, 344, 12⟩)
noncomputable def s170 : Str := ⟨⟨[nat_lit 84, nat_lit 97, nat_lit 98, nat_lit 108, nat_lit 101]⟩⟩
noncomputable def s171 : Str := ⟨⟨[nat_lit 97, nat_lit 114, nat_lit 114, nat_lit 97, nat_lit 121, nat_lit 95, nat_lit 115, nat_lit 105, nat_lit 122, nat_lit 101]⟩⟩
noncomputable def s172 : Str := ⟨⟨[nat_lit 104, nat_lit 97, nat_lit 115, nat_lit 104, nat_lit 95, nat_lit 115, nat_lit 105, nat_lit 122, nat_lit 101]⟩⟩
noncomputable def a155 : Arguments := ⟨[], [⟨s21, none, ⟨348, 17, 348, 21⟩⟩, ⟨s40, none, ⟨348, 23, 348, 29⟩⟩, ⟨s171, none, ⟨348, 33, 348, 43⟩⟩, ⟨s172, none, ⟨348, 47, 348, 56⟩⟩], none, [], [], none, [(.Constant (.int 0) 0 ⟨348, 30, 348, 31⟩), (.Constant (.int 0) 0 ⟨348, 44, 348, 45⟩), (.Constant (.int 0) 0 ⟨348, 57, 348, 58⟩)]⟩
noncomputable def c156 : Scope := ⟨.function, [(s21, .local), (s40, .local), (s171, .local), (s172, .local), (s38, .globalImplicit), (s153, .globalImplicit)], false, false, []⟩
noncomputable def s173 : Str := ⟨⟨[nat_lit 109, nat_lit 97, nat_lit 105, nat_lit 110, nat_lit 95, nat_lit 112, nat_lit 111, nat_lit 115, nat_lit 105, nat_lit 116, nat_lit 105, nat_lit 111, nat_lit 110]⟩⟩
noncomputable def a157 : Arguments := ⟨[], [⟨s21, none, ⟨360, 22, 360, 26⟩⟩, ⟨s160, none, ⟨360, 28, 360, 31⟩⟩], none, [], [], none, []⟩
noncomputable def s174 : Str := ⟨⟨[nat_lit 109, nat_lit 97, nat_lit 110, nat_lit 121]⟩⟩
noncomputable def c158 : Scope := ⟨.function, [(s21, .local), (s160, .local), (s174, .local), (s7, .globalImplicit), (s45, .globalImplicit), (s47, .globalImplicit), (s46, .globalImplicit), (s49, .globalImplicit), (s55, .globalImplicit)], false, false, []⟩
noncomputable def s175 : Str := ⟨⟨[nat_lit 102, nat_lit 105, nat_lit 110, nat_lit 100, nat_lit 95, nat_lit 110, nat_lit 111, nat_lit 100, nat_lit 101]⟩⟩
noncomputable def a159 : Arguments := ⟨[], [⟨s21, none, ⟨370, 18, 370, 22⟩⟩, ⟨s160, none, ⟨370, 24, 370, 27⟩⟩], none, [], [], none, []⟩
noncomputable def c160 : Scope := ⟨.function, [(s21, .local), (s160, .local), (s57, .local), (s7, .globalImplicit), (s51, .globalImplicit)], false, false, []⟩
noncomputable def s176 : Str := ⟨⟨[nat_lit 102, nat_lit 114, nat_lit 101, nat_lit 101, nat_lit 95, nat_lit 112, nat_lit 111, nat_lit 115, nat_lit 105, nat_lit 116, nat_lit 105, nat_lit 111, nat_lit 110]⟩⟩
noncomputable def a161 : Arguments := ⟨[], [⟨s21, none, ⟨380, 22, 380, 26⟩⟩], none, [], [], none, []⟩
noncomputable def s177 : Str := ⟨⟨[nat_lit 103, nat_lit 101, nat_lit 116, nat_lit 95, nat_lit 105, nat_lit 110, nat_lit 116]⟩⟩
noncomputable def a162 : Arguments := ⟨[], [⟨s21, none, ⟨387, 16, 387, 20⟩⟩, ⟨s60, none, ⟨387, 22, 387, 23⟩⟩], none, [], [], none, []⟩
noncomputable def c163 : Scope := ⟨.function, [(s21, .local), (s60, .local), (s57, .local), (s7, .globalImplicit)], false, false, []⟩
noncomputable def s178 : Str := ⟨⟨[nat_lit 103, nat_lit 101, nat_lit 116, nat_lit 95, nat_lit 116, nat_lit 101, nat_lit 120, nat_lit 116]⟩⟩
noncomputable def a164 : Arguments := ⟨[], [⟨s21, none, ⟨393, 17, 393, 21⟩⟩, ⟨s30, none, ⟨393, 23, 393, 27⟩⟩], none, [], [], none, []⟩
noncomputable def c165 : Scope := ⟨.function, [(s21, .local), (s30, .local), (s57, .local)], false, false, []⟩
noncomputable def a166 : Arguments := ⟨[], [⟨s21, none, ⟨397, 12, 397, 16⟩⟩, ⟨s160, none, ⟨397, 18, 397, 21⟩⟩], none, [], [], none, []⟩
noncomputable def c167 : Scope := ⟨.function, [(s21, .local), (s160, .local), (s57, .local), (s44, .globalImplicit)], false, false, []⟩
noncomputable def a168 : Arguments := ⟨[], [⟨s21, none, ⟨405, 12, 405, 16⟩⟩, ⟨s160, none, ⟨405, 18, 405, 21⟩⟩, ⟨s35, none, ⟨405, 23, 405, 28⟩⟩, ⟨s130, none, ⟨405, 30, 405, 34⟩⟩], none, [], [], none, []⟩
noncomputable def c169 : Scope := ⟨.function, [(s21, .local), (s160, .local), (s35, .local), (s130, .local), (s33, .globalImplicit)], false, false, []⟩
noncomputable def s179 : Str := ⟨⟨[nat_lit 115, nat_lit 101, nat_lit 116, nat_lit 95, nat_lit 105, nat_lit 110, nat_lit 116]⟩⟩
noncomputable def a170 : Arguments := ⟨[], [⟨s21, none, ⟨411, 16, 411, 20⟩⟩, ⟨s60, none, ⟨411, 22, 411, 23⟩⟩, ⟨s35, none, ⟨411, 25, 411, 30⟩⟩, ⟨s130, none, ⟨411, 32, 411, 36⟩⟩], none, [], [], none, []⟩
noncomputable def c171 : Scope := ⟨.function, [(s21, .local), (s60, .local), (s35, .local), (s130, .local), (s0, .globalImplicit)], false, false, []⟩
noncomputable def s180 : Str := ⟨⟨[nat_lit 115, nat_lit 101, nat_lit 116, nat_lit 95, nat_lit 116, nat_lit 101, nat_lit 120, nat_lit 116]⟩⟩
noncomputable def a172 : Arguments := ⟨[], [⟨s21, none, ⟨414, 17, 414, 21⟩⟩, ⟨s30, none, ⟨414, 23, 414, 27⟩⟩, ⟨s35, none, ⟨414, 29, 414, 34⟩⟩, ⟨s130, none, ⟨414, 36, 414, 40⟩⟩], none, [], [], none, []⟩
noncomputable def c173 : Scope := ⟨.function, [(s21, .local), (s30, .local), (s35, .local), (s130, .local), (s0, .globalImplicit)], false, false, []⟩
noncomputable def s181 : Str := ⟨⟨[nat_lit 112, nat_lit 117, nat_lit 116]⟩⟩
noncomputable def a174 : Arguments := ⟨[], [⟨s21, none, ⟨417, 12, 417, 16⟩⟩, ⟨s160, none, ⟨417, 18, 417, 21⟩⟩, ⟨s35, none, ⟨417, 23, 417, 28⟩⟩, ⟨s130, none, ⟨417, 30, 417, 34⟩⟩], none, [], [], none, []⟩
noncomputable def s182 : Str := ⟨⟨[nat_lit 115, nat_lit 112, nat_lit 111, nat_lit 116]⟩⟩
noncomputable def c175 : Scope := ⟨.function, [(s21, .local), (s160, .local), (s35, .local), (s130, .local), (s57, .local), (s182, .local), (s162, .globalImplicit), (s7, .globalImplicit)], false, false, []⟩
noncomputable def s183 : Str := ⟨⟨[nat_lit 110, nat_lit 101, nat_lit 119, nat_lit 95, nat_lit 107, nat_lit 101, nat_lit 121]⟩⟩
noncomputable def a176 : Arguments := ⟨[], [⟨s21, none, ⟨430, 16, 430, 20⟩⟩, ⟨s160, none, ⟨430, 22, 430, 25⟩⟩, ⟨s35, none, ⟨430, 27, 430, 32⟩⟩, ⟨s130, none, ⟨430, 34, 430, 38⟩⟩], none, [], [], none, []⟩
noncomputable def s184 : Str := ⟨⟨[nat_lit 112, nat_lit 108, nat_lit 97, nat_lit 99, nat_lit 101]⟩⟩
noncomputable def c177 : Scope := ⟨.function, [(s21, .local), (s160, .local), (s35, .local), (s130, .local), (s132, .local), (s184, .local), (s182, .local), (s159, .local), (s7, .globalImplicit)], false, false, []⟩
noncomputable def s185 : Str := ⟨⟨[nat_lit 112, nat_lit 117, nat_lit 116, nat_lit 95, nat_lit 97, nat_lit 103, nat_lit 97, nat_lit 105, nat_lit 110]⟩⟩
noncomputable def a178 : Arguments := ⟨[], [⟨s21, none, ⟨460, 18, 460, 22⟩⟩, ⟨s160, none, ⟨460, 24, 460, 27⟩⟩, ⟨s35, none, ⟨460, 29, 460, 34⟩⟩, ⟨s130, none, ⟨460, 36, 460, 40⟩⟩], none, [], [], none, []⟩
noncomputable def c179 : Scope := ⟨.function, [(s21, .local), (s160, .local), (s35, .local), (s130, .local), (s57, .local), (s162, .globalImplicit), (s7, .globalImplicit)], false, false, []⟩
noncomputable def s186 : Str := ⟨⟨[nat_lit 99, nat_lit 111, nat_lit 117, nat_lit 110, nat_lit 116, nat_lit 95, nat_lit 97, nat_lit 114, nat_lit 114, nat_lit 97, nat_lit 121]⟩⟩
noncomputable def a180 : Arguments := ⟨[], [⟨s21, none, ⟨467, 20, 467, 24⟩⟩, ⟨s164, none, ⟨467, 26, 467, 32⟩⟩], none, [], [], none, []⟩
noncomputable def s187 : Str := ⟨⟨[nat_lit 116, nat_lit 111, nat_lit 116, nat_lit 97, nat_lit 108]⟩⟩
noncomputable def s188 : Str := ⟨⟨[nat_lit 108, nat_lit 105, nat_lit 109, nat_lit 105, nat_lit 116]⟩⟩
noncomputable def s189 : Str := ⟨⟨[nat_lit 104, nat_lit 101, nat_lit 114, nat_lit 101]⟩⟩
noncomputable def c181 : Scope := ⟨.function, [(s21, .local), (s164, .local), (s187, .local), (s57, .local), (s188, .local), (s58, .local), (s105, .local), (s189, .local), (s108, .globalImplicit), (s149, .globalImplicit), (s106, .globalImplicit), (s7, .globalImplicit)], false, false, []⟩
noncomputable def s190 : Str := ⟨⟨[nat_lit 99, nat_lit 111, nat_lit 117, nat_lit 110, nat_lit 116, nat_lit 95, nat_lit 110, nat_lit 111, nat_lit 100, nat_lit 101, nat_lit 115]⟩⟩
noncomputable def a182 : Arguments := ⟨[], [⟨s21, none, ⟨485, 20, 485, 24⟩⟩, ⟨s164, none, ⟨485, 26, 485, 32⟩⟩], none, [], [], none, []⟩
noncomputable def s191 : Str := ⟨⟨[nat_lit 119, nat_lit 104, nat_lit 111, nat_lit 108, nat_lit 101]⟩⟩
noncomputable def s192 : Str := ⟨⟨[nat_lit 110, nat_lit 111, nat_lit 100, nat_lit 101]⟩⟩
noncomputable def c183 : Scope := ⟨.function, [(s21, .local), (s164, .local), (s187, .local), (s191, .local), (s192, .local), (s169, .globalImplicit)], false, false, []⟩
noncomputable def s193 : Str := ⟨⟨[nat_lit 114, nat_lit 101, nat_lit 104, nat_lit 97, nat_lit 115, nat_lit 104]⟩⟩
noncomputable def s194 : Str := ⟨⟨[nat_lit 101, nat_lit 120, nat_lit 116, nat_lit 114, nat_lit 97]⟩⟩
noncomputable def a184 : Arguments := ⟨[], [⟨s21, none, ⟨494, 15, 494, 19⟩⟩, ⟨s194, none, ⟨494, 21, 494, 26⟩⟩, ⟨s130, none, ⟨494, 28, 494, 32⟩⟩], none, [], [], none, []⟩
noncomputable def s195 : Str := ⟨⟨[nat_lit 105, nat_lit 110, nat_lit 95, nat_lit 110, nat_lit 111, nat_lit 100, nat_lit 101, nat_lit 115]⟩⟩
noncomputable def s196 : Str := ⟨⟨[nat_lit 119, nat_lit 104, nat_lit 111, nat_lit 108, nat_lit 101, nat_lit 95, nat_lit 110, nat_lit 111, nat_lit 100, nat_lit 101, nat_lit 115]⟩⟩
noncomputable def c185 : Scope := ⟨.function, [(s21, .local), (s194, .local), (s130, .local), (s164, .local), (s191, .local), (s187, .local), (s195, .local), (s196, .local), (s41, .local), (s166, .local), (s149, .globalImplicit), (s169, .globalImplicit), (s163, .globalImplicit)], false, false, []⟩
noncomputable def s197 : Str := ⟨⟨[nat_lit 114, nat_lit 101, nat_lit 115, nat_lit 105, nat_lit 122, nat_lit 101]⟩⟩
noncomputable def a186 : Arguments := ⟨[], [⟨s21, none, ⟨504, 15, 504, 19⟩⟩, ⟨s171, none, ⟨504, 21, 504, 31⟩⟩, ⟨s172, none, ⟨504, 33, 504, 42⟩⟩, ⟨s130, none, ⟨504, 44, 504, 48⟩⟩], none, [], [], none, [(.Constant .none 0 ⟨504, 49, 504, 53⟩)]⟩
noncomputable def s198 : Str := ⟨⟨[nat_lit 111, nat_lit 108, nat_lit 100, nat_lit 95, nat_lit 110, nat_lit 111, nat_lit 100, nat_lit 101, nat_lit 115]⟩⟩
noncomputable def s199 : Str := ⟨⟨[nat_lit 118, nat_lit 97, nat_lit 110, nat_lit 105, nat_lit 115, nat_lit 104, nat_lit 105, nat_lit 110, nat_lit 103]⟩⟩
noncomputable def s200 : Str := ⟨⟨[nat_lit 101, nat_lit 110, nat_lit 117, nat_lit 109, nat_lit 101, nat_lit 114, nat_lit 97, nat_lit 116, nat_lit 101]⟩⟩
noncomputable def s201 : Str := ⟨⟨[nat_lit 114, nat_lit 101, nat_lit 118, nat_lit 101, nat_lit 114, nat_lit 115, nat_lit 101, nat_lit 100]⟩⟩
noncomputable def c187 : Scope := ⟨.function, [(s21, .local), (s171, .local), (s172, .local), (s130, .local), (s198, .local), (s199, .local), (s58, .local), (s35, .local), (s192, .local), (s151, .globalImplicit), (s152, .globalImplicit), (s33, .globalImplicit), (s7, .globalImplicit), (s200, .globalImplicit), (s201, .globalImplicit)], false, false, []⟩
noncomputable def s202 : Str := ⟨⟨[nat_lit 112, nat_lit 117, nat_lit 116, nat_lit 95, nat_lit 98, nat_lit 97, nat_lit 99, nat_lit 107]⟩⟩
noncomputable def a188 : Arguments := ⟨[], [⟨s21, none, ⟨521, 17, 521, 21⟩⟩, ⟨s160, none, ⟨521, 23, 521, 26⟩⟩, ⟨s35, none, ⟨521, 28, 521, 33⟩⟩, ⟨s130, none, ⟨521, 35, 521, 39⟩⟩], none, [], [], none, []⟩
noncomputable def s203 : Str := ⟨⟨[nat_lit 109, nat_lit 97, nat_lit 107, nat_lit 101, nat_lit 95, nat_lit 110, nat_lit 111, nat_lit 100, nat_lit 101, nat_lit 115]⟩⟩
noncomputable def a189 : Arguments := ⟨[], [⟨s21, none, ⟨528, 19, 528, 23⟩⟩, ⟨s172, none, ⟨528, 25, 528, 34⟩⟩], none, [], [], none, []⟩
noncomputable def s204 : Str := ⟨⟨[nat_lit 102, nat_lit 97, nat_lit 115, nat_lit 116]⟩⟩
noncomputable def c190 : Scope := ⟨.function, [(s21, .local), (s172, .local), (s152, .globalImplicit), (s33, .globalImplicit), (s61, .globalImplicit), (s108, .globalImplicit), (s7, .globalImplicit)], false, false, [(s204, (.str s21)), (s204, (.str s172)), (s204, (.str s58))]⟩
noncomputable def s205 : Str := ⟨⟨[nat_lit 114, nat_lit 101, nat_lit 115, nat_lit 105, nat_lit 122, nat_lit 101, nat_lit 95, nat_lit 97, nat_lit 114, nat_lit 114, nat_lit 97, nat_lit 121]⟩⟩
noncomputable def a191 : Arguments := ⟨[], [⟨s21, none, ⟨538, 21, 538, 25⟩⟩, ⟨s171, none, ⟨538, 27, 538, 37⟩⟩, ⟨s130, none, ⟨538, 39, 538, 43⟩⟩], none, [], [], none, []⟩
noncomputable def c192 : Scope := ⟨.function, [(s21, .local), (s171, .local), (s130, .local), (s0, .globalImplicit)], false, false, []⟩
noncomputable def s206 : Str := ⟨⟨[nat_lit 119, nat_lit 101, nat_lit 105, nat_lit 103, nat_lit 104]⟩⟩
noncomputable def a193 : Arguments := ⟨[], [⟨s21, none, ⟨541, 14, 541, 18⟩⟩, ⟨s130, none, ⟨541, 20, 541, 24⟩⟩], none, [], [], none, []⟩
noncomputable def c194 : Scope := ⟨.function, [(s21, .local), (s130, .local), (s153, .globalImplicit), (s154, .globalImplicit), (s7, .globalImplicit), (s155, .globalImplicit)], false, false, []⟩
noncomputable def s207 : Str := ⟨⟨[nat_lit 102, nat_lit 105, nat_lit 110, nat_lit 100, nat_lit 95, nat_lit 105, nat_lit 110, nat_lit 100, nat_lit 101, nat_lit 120]⟩⟩
noncomputable def a195 : Arguments := ⟨[], [⟨s21, none, ⟨547, 19, 547, 23⟩⟩, ⟨s160, none, ⟨547, 25, 547, 28⟩⟩], none, [], [], none, []⟩
noncomputable def c196 : Scope := ⟨.function, [(s21, .local), (s160, .local), (s57, .local), (s182, .local), (s56, .local), (s162, .globalImplicit), (s7, .globalImplicit), (s51, .globalImplicit), (s45, .globalImplicit), (s156, .globalImplicit), (s50, .globalImplicit), (s33, .globalImplicit)], false, false, []⟩
noncomputable def a197 : Arguments := ⟨[], [⟨s21, none, ⟨563, 13, 563, 17⟩⟩, ⟨s160, none, ⟨563, 19, 563, 22⟩⟩], none, [], [], none, []⟩
noncomputable def c198 : Scope := ⟨.function, [(s21, .local), (s160, .local), (s57, .local), (s182, .local), (s192, .local), (s7, .globalImplicit)], false, false, []⟩
noncomputable def s208 : Str := ⟨⟨[nat_lit 108, nat_lit 101, nat_lit 110, nat_lit 103, nat_lit 116, nat_lit 104]⟩⟩
noncomputable def a199 : Arguments := ⟨[], [⟨s21, none, ⟨577, 15, 577, 19⟩⟩], none, [], [], none, []⟩
noncomputable def s209 : Str := ⟨⟨[nat_lit 117, nat_lit 110, nat_lit 98, nat_lit 111, nat_lit 117, nat_lit 110, nat_lit 100, nat_lit 95, nat_lit 115, nat_lit 101, nat_lit 97, nat_lit 114, nat_lit 99, nat_lit 104]⟩⟩
noncomputable def a200 : Arguments := ⟨[], [⟨s21, none, ⟨580, 23, 580, 27⟩⟩, ⟨s104, none, ⟨580, 29, 580, 34⟩⟩], none, [], [], none, []⟩
noncomputable def c201 : Scope := ⟨.function, [(s21, .local), (s104, .local), (s0, .globalImplicit)], false, false, []⟩
noncomputable def s210 : Str := ⟨⟨[nat_lit 98, nat_lit 117, nat_lit 114, nat_lit 121]⟩⟩
noncomputable def a202 : Arguments := ⟨[], [⟨s21, none, ⟨583, 13, 583, 17⟩⟩, ⟨s182, none, ⟨583, 19, 583, 23⟩⟩], none, [], [], none, []⟩
noncomputable def c203 : Scope := ⟨.function, [(s21, .local), (s182, .local), (s0, .globalImplicit)], false, false, []⟩
noncomputable def s211 : Str := ⟨⟨[nat_lit 98, nat_lit 117, nat_lit 114, nat_lit 121, nat_lit 95, nat_lit 101, nat_lit 109, nat_lit 112, nat_lit 116, nat_lit 121]⟩⟩
noncomputable def a204 : Arguments := ⟨[], [⟨s21, none, ⟨586, 19, 586, 23⟩⟩], none, [], [], none, []⟩
noncomputable def s212 : Str := ⟨⟨[nat_lit 101, nat_lit 110, nat_lit 116, nat_lit 114, nat_lit 105, nat_lit 101, nat_lit 115]⟩⟩
noncomputable def a205 : Arguments := ⟨[], [⟨s21, none, ⟨589, 16, 589, 20⟩⟩], none, [], [], none, []⟩
noncomputable def s213 : Str := ⟨⟨[nat_lit 97, nat_lit 114, nat_lit 114, nat_lit 97, nat_lit 121]⟩⟩
noncomputable def s214 : Str := ⟨⟨[nat_lit 102, nat_lit 108, nat_lit 97, nat_lit 103, nat_lit 115]⟩⟩
noncomputable def s215 : Str := ⟨⟨[nat_lit 102, nat_lit 114, nat_lit 101, nat_lit 101]⟩⟩
noncomputable def s216 : Str := ⟨⟨[nat_lit 108, nat_lit 111, nat_lit 103, nat_lit 95, nat_lit 110, nat_lit 111, nat_lit 100, nat_lit 101, nat_lit 115]⟩⟩
noncomputable def s217 : Str := ⟨⟨[nat_lit 110, nat_lit 111, nat_lit 100, nat_lit 101, nat_lit 115]⟩⟩
noncomputable def s218 : Str := ⟨⟨[nat_lit 119, nat_lit 101, nat_lit 97, nat_lit 107]⟩⟩
noncomputable def t206 : Stmt := (.ClassDef s170 [(.Name s38 ⟨345, 12, 345, 22⟩)] [] [(.Assign [(.Name s39 ⟨346, 4, 346, 8⟩)] (.Name s15 ⟨346, 11, 346, 18⟩) ⟨346, 4, 346, 18⟩), (.FunctionDef s20 a155 (mAt 59 1) [] none [] c156 none s20 ⟨348, 4, 358, 46⟩), (.FunctionDef s173 a157 (mAt 59 2) [] none [] c158 none s173 ⟨360, 4, 368, 42⟩), (.FunctionDef s175 a159 (mAt 59 3) [] none [] c160 none s175 ⟨370, 4, 378, 17⟩), (.FunctionDef s176 a161 (mAt 59 4) [] none [] c21 none s176 ⟨380, 4, 385, 17⟩), (.FunctionDef s177 a162 (mAt 59 5) [] none [] c163 none s177 ⟨387, 4, 391, 55⟩), (.FunctionDef s178 a164 (mAt 59 6) [] none [] c165 none s178 ⟨393, 4, 395, 55⟩), (.FunctionDef s69 a166 (mAt 59 7) [] none [] c167 none s69 ⟨397, 4, 403, 55⟩), (.FunctionDef s70 a168 (mAt 59 8) [] none [] c169 none s70 ⟨405, 4, 409, 34⟩), (.FunctionDef s179 a170 (mAt 59 9) [] none [] c171 none s179 ⟨411, 4, 412, 16⟩), (.FunctionDef s180 a172 (mAt 59 10) [] none [] c173 none s180 ⟨414, 4, 415, 16⟩), (.FunctionDef s181 a174 (mAt 59 11) [] none [] c175 none s181 ⟨417, 4, 428, 43⟩), (.FunctionDef s183 a176 (mAt 59 12) [] none [] c177 none s183 ⟨430, 4, 458, 41⟩), (.FunctionDef s185 a178 (mAt 59 13) [] none [] c179 none s185 ⟨460, 4, 465, 42⟩), (.FunctionDef s186 a180 (mAt 59 14) [] none [] c181 none s186 ⟨467, 4, 483, 20⟩), (.FunctionDef s190 a182 (mAt 59 15) [] none [] c183 none s190 ⟨485, 4, 492, 29⟩), (.FunctionDef s193 a184 (mAt 59 16) [] none [] c185 none s193 ⟨494, 4, 502, 45⟩), (.FunctionDef s197 a186 (mAt 59 17) [] none [] c187 none s197 ⟨504, 4, 519, 24⟩), (.FunctionDef s202 a188 (mAt 59 18) [] none [] c179 none s202 ⟨521, 4, 526, 42⟩), (.FunctionDef s203 a189 (mAt 59 19) [] none [] c190 none s203 ⟨528, 4, 536, 35⟩), (.FunctionDef s205 a191 (mAt 59 20) [] none [] c192 none s205 ⟨538, 4, 539, 17⟩), (.FunctionDef s206 a193 (mAt 59 21) [] none [] c194 none s206 ⟨541, 4, 545, 93⟩), (.FunctionDef s207 a195 (mAt 59 22) [] none [] c196 none s207 ⟨547, 4, 561, 48⟩), (.FunctionDef s161 a197 (mAt 59 23) [] none [] c198 none s161 ⟨563, 4, 575, 19⟩), (.FunctionDef s208 a199 (mAt 59 24) [] none [] c85 none s208 ⟨577, 4, 578, 17⟩), (.FunctionDef s209 a200 (mAt 59 25) [] none [] c201 none s209 ⟨580, 4, 581, 17⟩), (.FunctionDef s210 a202 (mAt 59 26) [] none [] c203 none s210 ⟨583, 4, 584, 17⟩), (.FunctionDef s211 a204 (mAt 59 27) [] none [] c85 none s211 ⟨586, 4, 587, 17⟩), (.FunctionDef s212 a205 (mAt 59 28) [] none [] c85 none s212 ⟨589, 4, 590, 17⟩)] [] [] ⟨.class, [(s39, .local), (s15, .globalImplicit), (s20, .local), (s173, .local), (s175, .local), (s176, .local), (s177, .local), (s178, .local), (s69, .local), (s70, .local), (s179, .local), (s180, .local), (s181, .local), (s183, .local), (s185, .local), (s186, .local), (s190, .local), (s193, .local), (s197, .local), (s202, .local), (s203, .local), (s205, .local), (s206, .local), (s207, .local), (s161, .local), (s208, .local), (s209, .local), (s210, .local), (s211, .local), (s212, .local)], false, false, []⟩ none s170 [s213, s214, s215, s216, s144, s217, s41, s218] ⟨345, 0, 590, 17⟩)
noncomputable def s219 : Str := ⟨⟨[nat_lit 108, nat_lit 117, nat_lit 97, nat_lit 46, nat_lit 112, nat_lit 108, nat_lit 97, nat_lit 105, nat_lit 110, nat_lit 104, nat_lit 101, nat_lit 97, nat_lit 112]⟩⟩
noncomputable def t207 : Stmt := (.Assign [(.Name s2 ⟨591, 0, 591, 8⟩)] (.Constant (.str s219) 0 ⟨591, 11, 591, 26⟩) ⟨591, 0, 591, 26⟩)
noncomputable def s220 : Str := ⟨⟨[nat_lit 80, nat_lit 108, nat_lit 97, nat_lit 105, nat_lit 110, nat_lit 72, nat_lit 101, nat_lit 97, nat_lit 112]⟩⟩
noncomputable def a208 : Arguments := ⟨[], [⟨s21, none, ⟨594, 17, 594, 21⟩⟩], none, [], [], none, []⟩
noncomputable def s221 : Str := ⟨⟨[nat_lit 108, nat_lit 105, nat_lit 110, nat_lit 107]⟩⟩
noncomputable def s222 : Str := ⟨⟨[nat_lit 111, nat_lit 98, nat_lit 106]⟩⟩
noncomputable def a209 : Arguments := ⟨[], [⟨s21, none, ⟨598, 13, 598, 17⟩⟩, ⟨s222, none, ⟨598, 19, 598, 22⟩⟩, ⟨s41, none, ⟨598, 24, 598, 28⟩⟩], none, [], [], none, []⟩
noncomputable def c210 : Scope := ⟨.function, [(s21, .local), (s222, .local), (s41, .local)], false, false, []⟩
noncomputable def s223 : Str := ⟨⟨[nat_lit 110, nat_lit 101, nat_lit 119, nat_lit 95, nat_lit 116, nat_lit 97, nat_lit 98, nat_lit 108, nat_lit 101]⟩⟩
noncomputable def a211 : Arguments := ⟨[], [⟨s21, none, ⟨604, 18, 604, 22⟩⟩, ⟨s171, none, ⟨604, 24, 604, 34⟩⟩, ⟨s172, none, ⟨604, 36, 604, 45⟩⟩], none, [], [], none, []⟩
noncomputable def c212 : Scope := ⟨.function, [(s21, .local), (s171, .local), (s172, .local), (s0, .globalImplicit)], false, false, []⟩
noncomputable def s224 : Str := ⟨⟨[nat_lit 110, nat_lit 101, nat_lit 119, nat_lit 95, nat_lit 108, nat_lit 117, nat_lit 97, nat_lit 95, nat_lit 99, nat_lit 108, nat_lit 111, nat_lit 115, nat_lit 117, nat_lit 114, nat_lit 101]⟩⟩
noncomputable def s225 : Str := ⟨⟨[nat_lit 112, nat_lit 114, nat_lit 111, nat_lit 116, nat_lit 111]⟩⟩
noncomputable def s226 : Str := ⟨⟨[nat_lit 117, nat_lit 112, nat_lit 118, nat_lit 97, nat_lit 108, nat_lit 115]⟩⟩
noncomputable def s227 : Str := ⟨⟨[nat_lit 101, nat_lit 110, nat_lit 118]⟩⟩
noncomputable def a213 : Arguments := ⟨[], [⟨s21, none, ⟨607, 24, 607, 28⟩⟩, ⟨s225, none, ⟨607, 30, 607, 35⟩⟩, ⟨s226, none, ⟨607, 37, 607, 43⟩⟩, ⟨s227, none, ⟨607, 45, 607, 48⟩⟩], none, [], [], none, []⟩
noncomputable def c214 : Scope := ⟨.function, [(s21, .local), (s225, .local), (s226, .local), (s227, .local), (s0, .globalImplicit)], false, false, []⟩
noncomputable def s228 : Str := ⟨⟨[nat_lit 110, nat_lit 101, nat_lit 119, nat_lit 95, nat_lit 117, nat_lit 112, nat_lit 118, nat_lit 97, nat_lit 108]⟩⟩
noncomputable def a215 : Arguments := ⟨[], [⟨s21, none, ⟨610, 18, 610, 22⟩⟩, ⟨s65, none, ⟨610, 24, 610, 30⟩⟩, ⟨s66, none, ⟨610, 32, 610, 37⟩⟩], none, [], [], none, []⟩
noncomputable def c216 : Scope := ⟨.function, [(s21, .local), (s65, .local), (s66, .local), (s76, .local), (s64, .globalImplicit)], false, false, []⟩
noncomputable def s229 : Str := ⟨⟨[nat_lit 105, nat_lit 115, nat_lit 95, nat_lit 100, nat_lit 101, nat_lit 97, nat_lit 100]⟩⟩
noncomputable def a217 : Arguments := ⟨[], [⟨s21, none, ⟨615, 16, 615, 20⟩⟩, ⟨s222, none, ⟨615, 22, 615, 25⟩⟩], none, [], [], none, []⟩
noncomputable def c218 : Scope := ⟨.function, [(s21, .local), (s222, .local)], false, false, []⟩
noncomputable def s230 : Str := ⟨⟨[nat_lit 114, nat_lit 101, nat_lit 118, nat_lit 105, nat_lit 118, nat_lit 101]⟩⟩
noncomputable def a219 : Arguments := ⟨[], [⟨s21, none, ⟨618, 15, 618, 19⟩⟩, ⟨s222, none, ⟨618, 21, 618, 24⟩⟩], none, [], [], none, []⟩
noncomputable def s231 : Str := ⟨⟨[nat_lit 99, nat_lit 108, nat_lit 111, nat_lit 115, nat_lit 101, nat_lit 100, nat_lit 95, nat_lit 117, nat_lit 112, nat_lit 118, nat_lit 97, nat_lit 108]⟩⟩
noncomputable def a220 : Arguments := ⟨[], [⟨s21, none, ⟨621, 21, 621, 25⟩⟩, ⟨s76, none, ⟨621, 27, 621, 32⟩⟩], none, [], [], none, []⟩
noncomputable def c221 : Scope := ⟨.function, [(s21, .local), (s76, .local)], false, false, []⟩
noncomputable def s232 : Str := ⟨⟨[nat_lit 114, nat_lit 101, nat_lit 115, nat_lit 105, nat_lit 122, nat_lit 101, nat_lit 100]⟩⟩
noncomputable def s233 : Str := ⟨⟨[nat_lit 116, nat_lit 97, nat_lit 98, nat_lit 108, nat_lit 101]⟩⟩
noncomputable def a222 : Arguments := ⟨[], [⟨s21, none, ⟨624, 16, 624, 20⟩⟩, ⟨s233, none, ⟨624, 22, 624, 27⟩⟩], none, [], [], none, []⟩
noncomputable def c223 : Scope := ⟨.function, [(s21, .local), (s233, .local)], false, false, []⟩
noncomputable def s234 : Str := ⟨⟨[nat_lit 98, nat_lit 97, nat_lit 114, nat_lit 114, nat_lit 105, nat_lit 101, nat_lit 114]⟩⟩
noncomputable def s235 : Str := ⟨⟨[nat_lit 112, nat_lit 97, nat_lit 114, nat_lit 101, nat_lit 110, nat_lit 116]⟩⟩
noncomputable def s236 : Str := ⟨⟨[nat_lit 99, nat_lit 104, nat_lit 105, nat_lit 108, nat_lit 100]⟩⟩
noncomputable def a224 : Arguments := ⟨[], [⟨s21, none, ⟨627, 16, 627, 20⟩⟩, ⟨s235, none, ⟨627, 22, 627, 28⟩⟩, ⟨s236, none, ⟨627, 30, 627, 35⟩⟩], none, [], [], none, []⟩
noncomputable def c225 : Scope := ⟨.function, [(s21, .local), (s235, .local), (s236, .local), (s0, .globalImplicit)], false, false, []⟩
noncomputable def s237 : Str := ⟨⟨[nat_lit 98, nat_lit 97, nat_lit 114, nat_lit 114, nat_lit 105, nat_lit 101, nat_lit 114, nat_lit 95, nat_lit 98, nat_lit 97, nat_lit 99, nat_lit 107]⟩⟩
noncomputable def a226 : Arguments := ⟨[], [⟨s21, none, ⟨630, 21, 630, 25⟩⟩, ⟨s233, none, ⟨630, 27, 630, 32⟩⟩], none, [], [], none, []⟩
noncomputable def c227 : Scope := ⟨.function, [(s21, .local), (s233, .local), (s0, .globalImplicit)], false, false, []⟩
noncomputable def s238 : Str := ⟨⟨[nat_lit 98, nat_lit 97, nat_lit 114, nat_lit 114, nat_lit 105, nat_lit 101, nat_lit 114, nat_lit 95, nat_lit 116, nat_lit 97, nat_lit 98, nat_lit 108, nat_lit 101]⟩⟩
noncomputable def a228 : Arguments := ⟨[], [⟨s21, none, ⟨633, 22, 633, 26⟩⟩, ⟨s233, none, ⟨633, 28, 633, 33⟩⟩, ⟨s35, none, ⟨633, 35, 633, 40⟩⟩], none, [], [], none, []⟩
noncomputable def c229 : Scope := ⟨.function, [(s21, .local), (s233, .local), (s35, .local)], false, false, []⟩
noncomputable def s239 : Str := ⟨⟨[nat_lit 99, nat_lit 104, nat_lit 101, nat_lit 99, nat_lit 107]⟩⟩
noncomputable def a230 : Arguments := ⟨[], [⟨s21, none, ⟨636, 14, 636, 18⟩⟩, ⟨s65, none, ⟨636, 20, 636, 26⟩⟩], none, [], [], none, []⟩
noncomputable def t231 : Stmt := (.ClassDef s220 [] [] [(.FunctionDef s20 a208 (mAt 61 0) [] none [] c21 none s20 ⟨594, 4, 596, 22⟩), (.FunctionDef s221 a209 (mAt 61 1) [] none [] c210 none s221 ⟨598, 4, 602, 26⟩), (.FunctionDef s223 a211 (mAt 61 2) [] none [] c212 none s223 ⟨604, 4, 605, 17⟩), (.FunctionDef s224 a213 (mAt 61 3) [] none [] c214 none s224 ⟨607, 4, 608, 17⟩), (.FunctionDef s228 a215 (mAt 61 4) [] none [] c216 none s228 ⟨610, 4, 613, 20⟩), (.FunctionDef s229 a217 (mAt 61 5) [] none [] c218 none s229 ⟨615, 4, 616, 20⟩), (.FunctionDef s230 a219 (mAt 61 6) [] none [] c218 none s230 ⟨618, 4, 619, 12⟩), (.FunctionDef s231 a220 (mAt 61 7) [] none [] c221 none s231 ⟨621, 4, 622, 12⟩), (.FunctionDef s232 a222 (mAt 61 8) [] none [] c223 none s232 ⟨624, 4, 625, 12⟩), (.FunctionDef s234 a224 (mAt 61 9) [] none [] c225 none s234 ⟨627, 4, 628, 17⟩), (.FunctionDef s237 a226 (mAt 61 10) [] none [] c227 none s237 ⟨630, 4, 631, 17⟩), (.FunctionDef s238 a228 (mAt 61 11) [] none [] c229 none s238 ⟨633, 4, 634, 12⟩), (.FunctionDef s239 a230 (mAt 61 12) [] none [] c83 none s239 ⟨636, 4, 637, 17⟩)] [] [] ⟨.class, [(s20, .local), (s221, .local), (s223, .local), (s224, .local), (s228, .local), (s229, .local), (s230, .local), (s231, .local), (s232, .local), (s234, .local), (s237, .local), (s238, .local), (s239, .local)], false, false, []⟩ none s220 [s131, s187] ⟨592, 0, 637, 17⟩)
noncomputable def s240 : Str := ⟨⟨[nat_lit 108, nat_lit 97, nat_lit 119, nat_lit 95, nat_lit 114, nat_lit 104, nat_lit 48, nat_lit 49, nat_lit 55, nat_lit 48, nat_lit 95, nat_lit 48, nat_lit 49]⟩⟩
noncomputable def t232 : Stmt := (.Assign [(.Name s2 ⟨638, 0, 638, 8⟩)] (.Constant (.str s240) 0 ⟨638, 11, 638, 26⟩) ⟨638, 0, 638, 26⟩)
noncomputable def s241 : Str := ⟨⟨[nat_lit 95, nat_lit 108, nat_lit 97, nat_lit 119, nat_lit 95, nat_lit 115, nat_lit 119, nat_lit 101, nat_lit 112, nat_lit 116]⟩⟩
noncomputable def s242 : Str := ⟨⟨[nat_lit 98, nat_lit 114, nat_lit 111, nat_lit 111, nat_lit 109]⟩⟩
noncomputable def a233 : Arguments := ⟨[], [⟨s242, none, ⟨639, 15, 639, 20⟩⟩, ⟨s174, none, ⟨639, 22, 639, 26⟩⟩], none, [], [], none, []⟩
noncomputable def s243 : Str := ⟨⟨[nat_lit 99, nat_lit 101, nat_lit 108, nat_lit 108, nat_lit 115]⟩⟩
noncomputable def s244 : Str := ⟨⟨[nat_lit 116, nat_lit 117, nat_lit 114, nat_lit 110]⟩⟩
noncomputable def s245 : Str := ⟨⟨[nat_lit 97, nat_lit 98, nat_lit 115]⟩⟩
noncomputable def c234 : Scope := ⟨.function, [(s242, .local), (s174, .local), (s243, .local), (s244, .local), (s7, .globalImplicit), (s245, .globalImplicit), (s46, .globalImplicit)], false, false, []⟩
noncomputable def t235 : Stmt := (.FunctionDef s241 a233 (bAt 63) [] none [] c234 none s241 ⟨639, 0, 642, 99⟩)
noncomputable def s246 : Str := ⟨⟨[nat_lit 95, nat_lit 108, nat_lit 97, nat_lit 119, nat_lit 95, nat_lit 109, nat_lit 111, nat_lit 100, nat_lit 101, nat_lit 95, nat_lit 114, nat_lit 105, nat_lit 103, nat_lit 104, nat_lit 116]⟩⟩
noncomputable def a236 : Arguments := ⟨[], [⟨s242, none, ⟨643, 20, 643, 25⟩⟩], none, [], [], none, []⟩
noncomputable def s247 : Str := ⟨⟨[nat_lit 111, nat_lit 99, nat_lit 116, nat_lit 101, nat_lit 116, nat_lit 115]⟩⟩
noncomputable def s248 : Str := ⟨⟨[nat_lit 100, nat_lit 117, nat_lit 101]⟩⟩
noncomputable def s249 : Str := ⟨⟨[nat_lit 107, nat_lit 101, nat_lit 112, nat_lit 116]⟩⟩
noncomputable def s250 : Str := ⟨⟨[nat_lit 111, nat_lit 99, nat_lit 116, nat_lit 101, nat_lit 116]⟩⟩
noncomputable def c237 : Scope := ⟨.function, [(s242, .cell), (s247, .local), (s35, .local), (s144, .local), (s248, .local), (s121, .local), (s249, .local), (s250, .local), (s49, .globalImplicit), (s108, .globalImplicit), (s241, .globalImplicit), (s170, .globalImplicit), (s45, .globalImplicit), (s46, .globalImplicit), (s143, .globalImplicit)], false, false, [(s204, (.str s242)), (s204, (.str s244)), (s204, (.str s247)), (s204, (.str s35)), (s204, (.str s144)), (s204, (.str s248)), (s204, (.str s121)), (s204, (.str s249)), (s204, (.str s250))]⟩
noncomputable def t238 : Stmt := (.FunctionDef s246 a236 (bAt 64) [] none [] c237 none s246 ⟨643, 0, 655, 60⟩)
noncomputable def s251 : Str := ⟨⟨[nat_lit 108, nat_lit 97, nat_lit 119]⟩⟩
noncomputable def s252 : Str := ⟨⟨[nat_lit 115, nat_lit 99, nat_lit 114, nat_lit 105, nat_lit 112, nat_lit 116]⟩⟩
noncomputable def a239 : Arguments := ⟨[], [⟨s252, none, ⟨656, 8, 656, 14⟩⟩], none, [], [], none, []⟩
noncomputable def s253 : Str := ⟨⟨[nat_lit 103, nat_lit 108, nat_lit 111, nat_lit 98, nat_lit 95, nat_lit 104, nat_lit 101, nat_lit 114, nat_lit 101]⟩⟩
noncomputable def s254 : Str := ⟨⟨[nat_lit 105, nat_lit 115, nat_lit 95, nat_lit 98, nat_lit 101, nat_lit 103, nat_lit 117, nat_lit 110]⟩⟩
noncomputable def c240 : Scope := ⟨.function, [(s252, .local), (s242, .local), (s253, .local), (s65, .local), (s226, .local), (s254, .local), (s98, .local), (s244, .local), (s35, .local), (s66, .local), (s246, .globalImplicit), (s127, .globalImplicit), (s19, .globalImplicit), (s220, .globalImplicit), (s94, .globalImplicit), (s241, .globalImplicit), (s108, .globalImplicit), (s138, .globalImplicit), (s141, .globalImplicit), (s7, .globalImplicit)], false, false, [(s204, (.str s252)), (s204, (.str s242)), (s204, (.str s253)), (s204, (.str s65)), (s204, (.str s226)), (s204, (.str s254)), (s204, (.str s98)), (s204, (.str s244)), (s204, (.str s35)), (s204, (.str s66)), (s204, (.str s76))]⟩
noncomputable def t241 : Stmt := (.FunctionDef s251 a239 (bAt 65) [] none [] c240 none s251 ⟨656, 0, 682, 88⟩)
noncomputable def c242 : Scope := ⟨.module, [(s0, .local), (s2, .local), (s4, .local), (s9, .local), (s10, .local), (s11, .local), (s12, .local), (s13, .local), (s14, .local), (s15, .local), (s16, .local), (s17, .local), (s18, .local), (s19, .local), (s33, .local), (s34, .globalImplicit), (s38, .local), (s43, .local), (s44, .local), (s48, .local), (s50, .local), (s51, .local), (s55, .local), (s59, .local), (s61, .local), (s63, .local), (s64, .local), (s72, .local), (s74, .local), (s75, .local), (s77, .local), (s80, .local), (s81, .local), (s82, .local), (s83, .local), (s84, .local), (s94, .local), (s127, .local), (s138, .local), (s139, .local), (s141, .local), (s143, .local), (s149, .local), (s150, .local), (s151, .local), (s152, .local), (s153, .local), (s154, .local), (s155, .local), (s156, .local), (s157, .local), (s162, .local), (s163, .local), (s169, .local), (s170, .local), (s220, .local), (s241, .local), (s246, .local), (s251, .local)], false, false, []⟩
noncomputable def s255 : Str := ⟨⟨[nat_lit 98, nat_lit 117, nat_lit 105, nat_lit 108, nat_lit 116, nat_lit 105, nat_lit 110, nat_lit 115]⟩⟩
noncomputable def s256 : Str := ⟨⟨[nat_lit 95, nat_lit 95, nat_lit 100, nat_lit 111, nat_lit 99, nat_lit 95, nat_lit 95]⟩⟩
noncomputable def s257 : Str := ⟨⟨[nat_lit 95, nat_lit 95, nat_lit 112, nat_lit 97, nat_lit 99, nat_lit 107, nat_lit 97, nat_lit 103, nat_lit 101, nat_lit 95, nat_lit 95]⟩⟩
noncomputable def s258 : Str := ⟨⟨[nat_lit 95, nat_lit 95, nat_lit 108, nat_lit 111, nat_lit 97, nat_lit 100, nat_lit 101, nat_lit 114, nat_lit 95, nat_lit 95]⟩⟩
noncomputable def s259 : Str := ⟨⟨[nat_lit 95, nat_lit 95, nat_lit 115, nat_lit 112, nat_lit 101, nat_lit 99, nat_lit 95, nat_lit 95]⟩⟩
noncomputable def s260 : Str := ⟨⟨[nat_lit 95, nat_lit 95, nat_lit 98, nat_lit 117, nat_lit 105, nat_lit 108, nat_lit 100, nat_lit 95, nat_lit 99, nat_lit 108, nat_lit 97, nat_lit 115, nat_lit 115, nat_lit 95, nat_lit 95]⟩⟩
noncomputable def s261 : Str := ⟨⟨[nat_lit 95, nat_lit 95, nat_lit 105, nat_lit 109, nat_lit 112, nat_lit 111, nat_lit 114, nat_lit 116, nat_lit 95, nat_lit 95]⟩⟩
noncomputable def s262 : Str := ⟨⟨[nat_lit 97, nat_lit 108, nat_lit 108]⟩⟩
noncomputable def s263 : Str := ⟨⟨[nat_lit 97, nat_lit 110, nat_lit 121]⟩⟩
noncomputable def s264 : Str := ⟨⟨[nat_lit 97, nat_lit 115, nat_lit 99, nat_lit 105, nat_lit 105]⟩⟩
noncomputable def s265 : Str := ⟨⟨[nat_lit 98, nat_lit 105, nat_lit 110]⟩⟩
noncomputable def s266 : Str := ⟨⟨[nat_lit 98, nat_lit 114, nat_lit 101, nat_lit 97, nat_lit 107, nat_lit 112, nat_lit 111, nat_lit 105, nat_lit 110, nat_lit 116]⟩⟩
noncomputable def s267 : Str := ⟨⟨[nat_lit 99, nat_lit 97, nat_lit 108, nat_lit 108, nat_lit 97, nat_lit 98, nat_lit 108, nat_lit 101]⟩⟩
noncomputable def s268 : Str := ⟨⟨[nat_lit 99, nat_lit 104, nat_lit 114]⟩⟩
noncomputable def s269 : Str := ⟨⟨[nat_lit 99, nat_lit 111, nat_lit 109, nat_lit 112, nat_lit 105, nat_lit 108, nat_lit 101]⟩⟩
noncomputable def s270 : Str := ⟨⟨[nat_lit 100, nat_lit 101, nat_lit 108, nat_lit 97, nat_lit 116, nat_lit 116, nat_lit 114]⟩⟩
noncomputable def s271 : Str := ⟨⟨[nat_lit 100, nat_lit 105, nat_lit 114]⟩⟩
noncomputable def s272 : Str := ⟨⟨[nat_lit 100, nat_lit 105, nat_lit 118, nat_lit 109, nat_lit 111, nat_lit 100]⟩⟩
noncomputable def s273 : Str := ⟨⟨[nat_lit 101, nat_lit 118, nat_lit 97, nat_lit 108]⟩⟩
noncomputable def s274 : Str := ⟨⟨[nat_lit 101, nat_lit 120, nat_lit 101, nat_lit 99]⟩⟩
noncomputable def s275 : Str := ⟨⟨[nat_lit 102, nat_lit 111, nat_lit 114, nat_lit 109, nat_lit 97, nat_lit 116]⟩⟩
noncomputable def s276 : Str := ⟨⟨[nat_lit 103, nat_lit 101, nat_lit 116, nat_lit 97, nat_lit 116, nat_lit 116, nat_lit 114]⟩⟩
noncomputable def s277 : Str := ⟨⟨[nat_lit 104, nat_lit 97, nat_lit 115, nat_lit 97, nat_lit 116, nat_lit 116, nat_lit 114]⟩⟩
noncomputable def s278 : Str := ⟨⟨[nat_lit 104, nat_lit 97, nat_lit 115, nat_lit 104]⟩⟩
noncomputable def s279 : Str := ⟨⟨[nat_lit 104, nat_lit 101, nat_lit 120]⟩⟩
noncomputable def s280 : Str := ⟨⟨[nat_lit 105, nat_lit 100]⟩⟩
noncomputable def s281 : Str := ⟨⟨[nat_lit 105, nat_lit 110, nat_lit 112, nat_lit 117, nat_lit 116]⟩⟩
noncomputable def s282 : Str := ⟨⟨[nat_lit 105, nat_lit 115, nat_lit 115, nat_lit 117, nat_lit 98, nat_lit 99, nat_lit 108, nat_lit 97, nat_lit 115, nat_lit 115]⟩⟩
noncomputable def s283 : Str := ⟨⟨[nat_lit 105, nat_lit 116, nat_lit 101, nat_lit 114]⟩⟩
noncomputable def s284 : Str := ⟨⟨[nat_lit 97, nat_lit 105, nat_lit 116, nat_lit 101, nat_lit 114]⟩⟩
noncomputable def s285 : Str := ⟨⟨[nat_lit 108, nat_lit 111, nat_lit 99, nat_lit 97, nat_lit 108, nat_lit 115]⟩⟩
noncomputable def s286 : Str := ⟨⟨[nat_lit 97, nat_lit 110, nat_lit 101, nat_lit 120, nat_lit 116]⟩⟩
noncomputable def s287 : Str := ⟨⟨[nat_lit 111, nat_lit 99, nat_lit 116]⟩⟩
noncomputable def s288 : Str := ⟨⟨[nat_lit 111, nat_lit 114, nat_lit 100]⟩⟩
noncomputable def s289 : Str := ⟨⟨[nat_lit 112, nat_lit 111, nat_lit 119]⟩⟩
noncomputable def s290 : Str := ⟨⟨[nat_lit 112, nat_lit 114, nat_lit 105, nat_lit 110, nat_lit 116]⟩⟩
noncomputable def s291 : Str := ⟨⟨[nat_lit 114, nat_lit 101, nat_lit 112, nat_lit 114]⟩⟩
noncomputable def s292 : Str := ⟨⟨[nat_lit 114, nat_lit 111, nat_lit 117, nat_lit 110, nat_lit 100]⟩⟩
noncomputable def s293 : Str := ⟨⟨[nat_lit 115, nat_lit 101, nat_lit 116, nat_lit 97, nat_lit 116, nat_lit 116, nat_lit 114]⟩⟩
noncomputable def s294 : Str := ⟨⟨[nat_lit 115, nat_lit 111, nat_lit 114, nat_lit 116, nat_lit 101, nat_lit 100]⟩⟩
noncomputable def s295 : Str := ⟨⟨[nat_lit 115, nat_lit 117, nat_lit 109]⟩⟩
noncomputable def s296 : Str := ⟨⟨[nat_lit 118, nat_lit 97, nat_lit 114, nat_lit 115]⟩⟩
noncomputable def s297 : Str := ⟨⟨[nat_lit 78, nat_lit 111, nat_lit 110, nat_lit 101]⟩⟩
noncomputable def s298 : Str := ⟨⟨[nat_lit 69, nat_lit 108, nat_lit 108, nat_lit 105, nat_lit 112, nat_lit 115, nat_lit 105, nat_lit 115]⟩⟩
noncomputable def s299 : Str := ⟨⟨[nat_lit 78, nat_lit 111, nat_lit 116, nat_lit 73, nat_lit 109, nat_lit 112, nat_lit 108, nat_lit 101, nat_lit 109, nat_lit 101, nat_lit 110, nat_lit 116, nat_lit 101, nat_lit 100]⟩⟩
noncomputable def s300 : Str := ⟨⟨[nat_lit 70, nat_lit 97, nat_lit 108, nat_lit 115, nat_lit 101]⟩⟩
noncomputable def s301 : Str := ⟨⟨[nat_lit 84, nat_lit 114, nat_lit 117, nat_lit 101]⟩⟩
noncomputable def s302 : Str := ⟨⟨[nat_lit 109, nat_lit 101, nat_lit 109, nat_lit 111, nat_lit 114, nat_lit 121, nat_lit 118, nat_lit 105, nat_lit 101, nat_lit 119]⟩⟩
noncomputable def s303 : Str := ⟨⟨[nat_lit 98, nat_lit 121, nat_lit 116, nat_lit 101, nat_lit 97, nat_lit 114, nat_lit 114, nat_lit 97, nat_lit 121]⟩⟩
noncomputable def s304 : Str := ⟨⟨[nat_lit 99, nat_lit 108, nat_lit 97, nat_lit 115, nat_lit 115, nat_lit 109, nat_lit 101, nat_lit 116, nat_lit 104, nat_lit 111, nat_lit 100]⟩⟩
noncomputable def s305 : Str := ⟨⟨[nat_lit 99, nat_lit 111, nat_lit 109, nat_lit 112, nat_lit 108, nat_lit 101, nat_lit 120]⟩⟩
noncomputable def s306 : Str := ⟨⟨[nat_lit 100, nat_lit 105, nat_lit 99, nat_lit 116]⟩⟩
noncomputable def s307 : Str := ⟨⟨[nat_lit 102, nat_lit 105, nat_lit 108, nat_lit 116, nat_lit 101, nat_lit 114]⟩⟩
noncomputable def s308 : Str := ⟨⟨[nat_lit 102, nat_lit 108, nat_lit 111, nat_lit 97, nat_lit 116]⟩⟩
noncomputable def s309 : Str := ⟨⟨[nat_lit 102, nat_lit 114, nat_lit 111, nat_lit 122, nat_lit 101, nat_lit 110, nat_lit 115, nat_lit 101, nat_lit 116]⟩⟩
noncomputable def s310 : Str := ⟨⟨[nat_lit 108, nat_lit 105, nat_lit 115, nat_lit 116]⟩⟩
noncomputable def s311 : Str := ⟨⟨[nat_lit 109, nat_lit 97, nat_lit 112]⟩⟩
noncomputable def s312 : Str := ⟨⟨[nat_lit 111, nat_lit 98, nat_lit 106, nat_lit 101, nat_lit 99, nat_lit 116]⟩⟩
noncomputable def s313 : Str := ⟨⟨[nat_lit 115, nat_lit 108, nat_lit 105, nat_lit 99, nat_lit 101]⟩⟩
noncomputable def s314 : Str := ⟨⟨[nat_lit 115, nat_lit 116, nat_lit 97, nat_lit 116, nat_lit 105, nat_lit 99, nat_lit 109, nat_lit 101, nat_lit 116, nat_lit 104, nat_lit 111, nat_lit 100]⟩⟩
noncomputable def s315 : Str := ⟨⟨[nat_lit 115, nat_lit 116, nat_lit 114]⟩⟩
noncomputable def s316 : Str := ⟨⟨[nat_lit 115, nat_lit 117, nat_lit 112, nat_lit 101, nat_lit 114]⟩⟩
noncomputable def s317 : Str := ⟨⟨[nat_lit 116, nat_lit 117, nat_lit 112, nat_lit 108, nat_lit 101]⟩⟩
noncomputable def s318 : Str := ⟨⟨[nat_lit 116, nat_lit 121, nat_lit 112, nat_lit 101]⟩⟩
noncomputable def s319 : Str := ⟨⟨[nat_lit 122, nat_lit 105, nat_lit 112]⟩⟩
noncomputable def s320 : Str := ⟨⟨[nat_lit 95, nat_lit 95, nat_lit 100, nat_lit 101, nat_lit 98, nat_lit 117, nat_lit 103, nat_lit 95, nat_lit 95]⟩⟩
noncomputable def s321 : Str := ⟨⟨[nat_lit 66, nat_lit 97, nat_lit 115, nat_lit 101, nat_lit 69, nat_lit 120, nat_lit 99, nat_lit 101, nat_lit 112, nat_lit 116, nat_lit 105, nat_lit 111, nat_lit 110]⟩⟩
noncomputable def s322 : Str := ⟨⟨[nat_lit 66, nat_lit 97, nat_lit 115, nat_lit 101, nat_lit 69, nat_lit 120, nat_lit 99, nat_lit 101, nat_lit 112, nat_lit 116, nat_lit 105, nat_lit 111, nat_lit 110, nat_lit 71, nat_lit 114, nat_lit 111, nat_lit 117, nat_lit 112]⟩⟩
noncomputable def s323 : Str := ⟨⟨[nat_lit 71, nat_lit 101, nat_lit 110, nat_lit 101, nat_lit 114, nat_lit 97, nat_lit 116, nat_lit 111, nat_lit 114, nat_lit 69, nat_lit 120, nat_lit 105, nat_lit 116]⟩⟩
noncomputable def s324 : Str := ⟨⟨[nat_lit 75, nat_lit 101, nat_lit 121, nat_lit 98, nat_lit 111, nat_lit 97, nat_lit 114, nat_lit 100, nat_lit 73, nat_lit 110, nat_lit 116, nat_lit 101, nat_lit 114, nat_lit 114, nat_lit 117, nat_lit 112, nat_lit 116]⟩⟩
noncomputable def s325 : Str := ⟨⟨[nat_lit 83, nat_lit 121, nat_lit 115, nat_lit 116, nat_lit 101, nat_lit 109, nat_lit 69, nat_lit 120, nat_lit 105, nat_lit 116]⟩⟩
noncomputable def s326 : Str := ⟨⟨[nat_lit 65, nat_lit 114, nat_lit 105, nat_lit 116, nat_lit 104, nat_lit 109, nat_lit 101, nat_lit 116, nat_lit 105, nat_lit 99, nat_lit 69, nat_lit 114, nat_lit 114, nat_lit 111, nat_lit 114]⟩⟩
noncomputable def s327 : Str := ⟨⟨[nat_lit 65, nat_lit 115, nat_lit 115, nat_lit 101, nat_lit 114, nat_lit 116, nat_lit 105, nat_lit 111, nat_lit 110, nat_lit 69, nat_lit 114, nat_lit 114, nat_lit 111, nat_lit 114]⟩⟩
noncomputable def s328 : Str := ⟨⟨[nat_lit 65, nat_lit 116, nat_lit 116, nat_lit 114, nat_lit 105, nat_lit 98, nat_lit 117, nat_lit 116, nat_lit 101, nat_lit 69, nat_lit 114, nat_lit 114, nat_lit 111, nat_lit 114]⟩⟩
noncomputable def s329 : Str := ⟨⟨[nat_lit 66, nat_lit 117, nat_lit 102, nat_lit 102, nat_lit 101, nat_lit 114, nat_lit 69, nat_lit 114, nat_lit 114, nat_lit 111, nat_lit 114]⟩⟩
noncomputable def s330 : Str := ⟨⟨[nat_lit 69, nat_lit 79, nat_lit 70, nat_lit 69, nat_lit 114, nat_lit 114, nat_lit 111, nat_lit 114]⟩⟩
noncomputable def s331 : Str := ⟨⟨[nat_lit 73, nat_lit 109, nat_lit 112, nat_lit 111, nat_lit 114, nat_lit 116, nat_lit 69, nat_lit 114, nat_lit 114, nat_lit 111, nat_lit 114]⟩⟩
noncomputable def s332 : Str := ⟨⟨[nat_lit 76, nat_lit 111, nat_lit 111, nat_lit 107, nat_lit 117, nat_lit 112, nat_lit 69, nat_lit 114, nat_lit 114, nat_lit 111, nat_lit 114]⟩⟩
noncomputable def s333 : Str := ⟨⟨[nat_lit 77, nat_lit 101, nat_lit 109, nat_lit 111, nat_lit 114, nat_lit 121, nat_lit 69, nat_lit 114, nat_lit 114, nat_lit 111, nat_lit 114]⟩⟩
noncomputable def s334 : Str := ⟨⟨[nat_lit 78, nat_lit 97, nat_lit 109, nat_lit 101, nat_lit 69, nat_lit 114, nat_lit 114, nat_lit 111, nat_lit 114]⟩⟩
noncomputable def s335 : Str := ⟨⟨[nat_lit 79, nat_lit 83, nat_lit 69, nat_lit 114, nat_lit 114, nat_lit 111, nat_lit 114]⟩⟩
noncomputable def s336 : Str := ⟨⟨[nat_lit 82, nat_lit 101, nat_lit 102, nat_lit 101, nat_lit 114, nat_lit 101, nat_lit 110, nat_lit 99, nat_lit 101, nat_lit 69, nat_lit 114, nat_lit 114, nat_lit 111, nat_lit 114]⟩⟩
noncomputable def s337 : Str := ⟨⟨[nat_lit 82, nat_lit 117, nat_lit 110, nat_lit 116, nat_lit 105, nat_lit 109, nat_lit 101, nat_lit 69, nat_lit 114, nat_lit 114, nat_lit 111, nat_lit 114]⟩⟩
noncomputable def s338 : Str := ⟨⟨[nat_lit 83, nat_lit 116, nat_lit 111, nat_lit 112, nat_lit 65, nat_lit 115, nat_lit 121, nat_lit 110, nat_lit 99, nat_lit 73, nat_lit 116, nat_lit 101, nat_lit 114, nat_lit 97, nat_lit 116, nat_lit 105, nat_lit 111, nat_lit 110]⟩⟩
noncomputable def s339 : Str := ⟨⟨[nat_lit 83, nat_lit 116, nat_lit 111, nat_lit 112, nat_lit 73, nat_lit 116, nat_lit 101, nat_lit 114, nat_lit 97, nat_lit 116, nat_lit 105, nat_lit 111, nat_lit 110]⟩⟩
noncomputable def s340 : Str := ⟨⟨[nat_lit 83, nat_lit 121, nat_lit 110, nat_lit 116, nat_lit 97, nat_lit 120, nat_lit 69, nat_lit 114, nat_lit 114, nat_lit 111, nat_lit 114]⟩⟩
noncomputable def s341 : Str := ⟨⟨[nat_lit 83, nat_lit 121, nat_lit 115, nat_lit 116, nat_lit 101, nat_lit 109, nat_lit 69, nat_lit 114, nat_lit 114, nat_lit 111, nat_lit 114]⟩⟩
noncomputable def s342 : Str := ⟨⟨[nat_lit 84, nat_lit 121, nat_lit 112, nat_lit 101, nat_lit 69, nat_lit 114, nat_lit 114, nat_lit 111, nat_lit 114]⟩⟩
noncomputable def s343 : Str := ⟨⟨[nat_lit 86, nat_lit 97, nat_lit 108, nat_lit 117, nat_lit 101, nat_lit 69, nat_lit 114, nat_lit 114, nat_lit 111, nat_lit 114]⟩⟩
noncomputable def s344 : Str := ⟨⟨[nat_lit 87, nat_lit 97, nat_lit 114, nat_lit 110, nat_lit 105, nat_lit 110, nat_lit 103]⟩⟩
noncomputable def s345 : Str := ⟨⟨[nat_lit 70, nat_lit 108, nat_lit 111, nat_lit 97, nat_lit 116, nat_lit 105, nat_lit 110, nat_lit 103, nat_lit 80, nat_lit 111, nat_lit 105, nat_lit 110, nat_lit 116, nat_lit 69, nat_lit 114, nat_lit 114, nat_lit 111, nat_lit 114]⟩⟩
noncomputable def s346 : Str := ⟨⟨[nat_lit 79, nat_lit 118, nat_lit 101, nat_lit 114, nat_lit 102, nat_lit 108, nat_lit 111, nat_lit 119, nat_lit 69, nat_lit 114, nat_lit 114, nat_lit 111, nat_lit 114]⟩⟩
noncomputable def s347 : Str := ⟨⟨[nat_lit 90, nat_lit 101, nat_lit 114, nat_lit 111, nat_lit 68, nat_lit 105, nat_lit 118, nat_lit 105, nat_lit 115, nat_lit 105, nat_lit 111, nat_lit 110, nat_lit 69, nat_lit 114, nat_lit 114, nat_lit 111, nat_lit 114]⟩⟩
noncomputable def s348 : Str := ⟨⟨[nat_lit 66, nat_lit 121, nat_lit 116, nat_lit 101, nat_lit 115, nat_lit 87, nat_lit 97, nat_lit 114, nat_lit 110, nat_lit 105, nat_lit 110, nat_lit 103]⟩⟩
noncomputable def s349 : Str := ⟨⟨[nat_lit 68, nat_lit 101, nat_lit 112, nat_lit 114, nat_lit 101, nat_lit 99, nat_lit 97, nat_lit 116, nat_lit 105, nat_lit 111, nat_lit 110, nat_lit 87, nat_lit 97, nat_lit 114, nat_lit 110, nat_lit 105, nat_lit 110, nat_lit 103]⟩⟩
noncomputable def s350 : Str := ⟨⟨[nat_lit 69, nat_lit 110, nat_lit 99, nat_lit 111, nat_lit 100, nat_lit 105, nat_lit 110, nat_lit 103, nat_lit 87, nat_lit 97, nat_lit 114, nat_lit 110, nat_lit 105, nat_lit 110, nat_lit 103]⟩⟩
noncomputable def s351 : Str := ⟨⟨[nat_lit 70, nat_lit 117, nat_lit 116, nat_lit 117, nat_lit 114, nat_lit 101, nat_lit 87, nat_lit 97, nat_lit 114, nat_lit 110, nat_lit 105, nat_lit 110, nat_lit 103]⟩⟩
noncomputable def s352 : Str := ⟨⟨[nat_lit 73, nat_lit 109, nat_lit 112, nat_lit 111, nat_lit 114, nat_lit 116, nat_lit 87, nat_lit 97, nat_lit 114, nat_lit 110, nat_lit 105, nat_lit 110, nat_lit 103]⟩⟩
noncomputable def s353 : Str := ⟨⟨[nat_lit 80, nat_lit 101, nat_lit 110, nat_lit 100, nat_lit 105, nat_lit 110, nat_lit 103, nat_lit 68, nat_lit 101, nat_lit 112, nat_lit 114, nat_lit 101, nat_lit 99, nat_lit 97, nat_lit 116, nat_lit 105, nat_lit 111, nat_lit 110, nat_lit 87, nat_lit 97, nat_lit 114, nat_lit 110, nat_lit 105, nat_lit 110, nat_lit 103]⟩⟩
noncomputable def s354 : Str := ⟨⟨[nat_lit 82, nat_lit 101, nat_lit 115, nat_lit 111, nat_lit 117, nat_lit 114, nat_lit 99, nat_lit 101, nat_lit 87, nat_lit 97, nat_lit 114, nat_lit 110, nat_lit 105, nat_lit 110, nat_lit 103]⟩⟩
noncomputable def s355 : Str := ⟨⟨[nat_lit 82, nat_lit 117, nat_lit 110, nat_lit 116, nat_lit 105, nat_lit 109, nat_lit 101, nat_lit 87, nat_lit 97, nat_lit 114, nat_lit 110, nat_lit 105, nat_lit 110, nat_lit 103]⟩⟩
noncomputable def s356 : Str := ⟨⟨[nat_lit 83, nat_lit 121, nat_lit 110, nat_lit 116, nat_lit 97, nat_lit 120, nat_lit 87, nat_lit 97, nat_lit 114, nat_lit 110, nat_lit 105, nat_lit 110, nat_lit 103]⟩⟩
noncomputable def s357 : Str := ⟨⟨[nat_lit 85, nat_lit 110, nat_lit 105, nat_lit 99, nat_lit 111, nat_lit 100, nat_lit 101, nat_lit 87, nat_lit 97, nat_lit 114, nat_lit 110, nat_lit 105, nat_lit 110, nat_lit 103]⟩⟩
noncomputable def s358 : Str := ⟨⟨[nat_lit 85, nat_lit 115, nat_lit 101, nat_lit 114, nat_lit 87, nat_lit 97, nat_lit 114, nat_lit 110, nat_lit 105, nat_lit 110, nat_lit 103]⟩⟩
noncomputable def s359 : Str := ⟨⟨[nat_lit 66, nat_lit 108, nat_lit 111, nat_lit 99, nat_lit 107, nat_lit 105, nat_lit 110, nat_lit 103, nat_lit 73, nat_lit 79, nat_lit 69, nat_lit 114, nat_lit 114, nat_lit 111, nat_lit 114]⟩⟩
noncomputable def s360 : Str := ⟨⟨[nat_lit 67, nat_lit 104, nat_lit 105, nat_lit 108, nat_lit 100, nat_lit 80, nat_lit 114, nat_lit 111, nat_lit 99, nat_lit 101, nat_lit 115, nat_lit 115, nat_lit 69, nat_lit 114, nat_lit 114, nat_lit 111, nat_lit 114]⟩⟩
noncomputable def s361 : Str := ⟨⟨[nat_lit 67, nat_lit 111, nat_lit 110, nat_lit 110, nat_lit 101, nat_lit 99, nat_lit 116, nat_lit 105, nat_lit 111, nat_lit 110, nat_lit 69, nat_lit 114, nat_lit 114, nat_lit 111, nat_lit 114]⟩⟩
noncomputable def s362 : Str := ⟨⟨[nat_lit 70, nat_lit 105, nat_lit 108, nat_lit 101, nat_lit 69, nat_lit 120, nat_lit 105, nat_lit 115, nat_lit 116, nat_lit 115, nat_lit 69, nat_lit 114, nat_lit 114, nat_lit 111, nat_lit 114]⟩⟩
noncomputable def s363 : Str := ⟨⟨[nat_lit 70, nat_lit 105, nat_lit 108, nat_lit 101, nat_lit 78, nat_lit 111, nat_lit 116, nat_lit 70, nat_lit 111, nat_lit 117, nat_lit 110, nat_lit 100, nat_lit 69, nat_lit 114, nat_lit 114, nat_lit 111, nat_lit 114]⟩⟩
noncomputable def s364 : Str := ⟨⟨[nat_lit 73, nat_lit 110, nat_lit 116, nat_lit 101, nat_lit 114, nat_lit 114, nat_lit 117, nat_lit 112, nat_lit 116, nat_lit 101, nat_lit 100, nat_lit 69, nat_lit 114, nat_lit 114, nat_lit 111, nat_lit 114]⟩⟩
noncomputable def s365 : Str := ⟨⟨[nat_lit 73, nat_lit 115, nat_lit 65, nat_lit 68, nat_lit 105, nat_lit 114, nat_lit 101, nat_lit 99, nat_lit 116, nat_lit 111, nat_lit 114, nat_lit 121, nat_lit 69, nat_lit 114, nat_lit 114, nat_lit 111, nat_lit 114]⟩⟩
noncomputable def s366 : Str := ⟨⟨[nat_lit 78, nat_lit 111, nat_lit 116, nat_lit 65, nat_lit 68, nat_lit 105, nat_lit 114, nat_lit 101, nat_lit 99, nat_lit 116, nat_lit 111, nat_lit 114, nat_lit 121, nat_lit 69, nat_lit 114, nat_lit 114, nat_lit 111, nat_lit 114]⟩⟩
noncomputable def s367 : Str := ⟨⟨[nat_lit 80, nat_lit 101, nat_lit 114, nat_lit 109, nat_lit 105, nat_lit 115, nat_lit 115, nat_lit 105, nat_lit 111, nat_lit 110, nat_lit 69, nat_lit 114, nat_lit 114, nat_lit 111, nat_lit 114]⟩⟩
noncomputable def s368 : Str := ⟨⟨[nat_lit 80, nat_lit 114, nat_lit 111, nat_lit 99, nat_lit 101, nat_lit 115, nat_lit 115, nat_lit 76, nat_lit 111, nat_lit 111, nat_lit 107, nat_lit 117, nat_lit 112, nat_lit 69, nat_lit 114, nat_lit 114, nat_lit 111, nat_lit 114]⟩⟩
noncomputable def s369 : Str := ⟨⟨[nat_lit 84, nat_lit 105, nat_lit 109, nat_lit 101, nat_lit 111, nat_lit 117, nat_lit 116, nat_lit 69, nat_lit 114, nat_lit 114, nat_lit 111, nat_lit 114]⟩⟩
noncomputable def s370 : Str := ⟨⟨[nat_lit 73, nat_lit 110, nat_lit 100, nat_lit 101, nat_lit 110, nat_lit 116, nat_lit 97, nat_lit 116, nat_lit 105, nat_lit 111, nat_lit 110, nat_lit 69, nat_lit 114, nat_lit 114, nat_lit 111, nat_lit 114]⟩⟩
noncomputable def s371 : Str := ⟨⟨[nat_lit 95, nat_lit 73, nat_lit 110, nat_lit 99, nat_lit 111, nat_lit 109, nat_lit 112, nat_lit 108, nat_lit 101, nat_lit 116, nat_lit 101, nat_lit 73, nat_lit 110, nat_lit 112, nat_lit 117, nat_lit 116, nat_lit 69, nat_lit 114, nat_lit 114, nat_lit 111, nat_lit 114]⟩⟩
noncomputable def s372 : Str := ⟨⟨[nat_lit 73, nat_lit 110, nat_lit 100, nat_lit 101, nat_lit 120, nat_lit 69, nat_lit 114, nat_lit 114, nat_lit 111, nat_lit 114]⟩⟩
noncomputable def s373 : Str := ⟨⟨[nat_lit 75, nat_lit 101, nat_lit 121, nat_lit 69, nat_lit 114, nat_lit 114, nat_lit 111, nat_lit 114]⟩⟩
noncomputable def s374 : Str := ⟨⟨[nat_lit 77, nat_lit 111, nat_lit 100, nat_lit 117, nat_lit 108, nat_lit 101, nat_lit 78, nat_lit 111, nat_lit 116, nat_lit 70, nat_lit 111, nat_lit 117, nat_lit 110, nat_lit 100, nat_lit 69, nat_lit 114, nat_lit 114, nat_lit 111, nat_lit 114]⟩⟩
noncomputable def s375 : Str := ⟨⟨[nat_lit 78, nat_lit 111, nat_lit 116, nat_lit 73, nat_lit 109, nat_lit 112, nat_lit 108, nat_lit 101, nat_lit 109, nat_lit 101, nat_lit 110, nat_lit 116, nat_lit 101, nat_lit 100, nat_lit 69, nat_lit 114, nat_lit 114, nat_lit 111, nat_lit 114]⟩⟩
noncomputable def s376 : Str := ⟨⟨[nat_lit 80, nat_lit 121, nat_lit 116, nat_lit 104, nat_lit 111, nat_lit 110, nat_lit 70, nat_lit 105, nat_lit 110, nat_lit 97, nat_lit 108, nat_lit 105, nat_lit 122, nat_lit 97, nat_lit 116, nat_lit 105, nat_lit 111, nat_lit 110, nat_lit 69, nat_lit 114, nat_lit 114, nat_lit 111, nat_lit 114]⟩⟩
noncomputable def s377 : Str := ⟨⟨[nat_lit 82, nat_lit 101, nat_lit 99, nat_lit 117, nat_lit 114, nat_lit 115, nat_lit 105, nat_lit 111, nat_lit 110, nat_lit 69, nat_lit 114, nat_lit 114, nat_lit 111, nat_lit 114]⟩⟩
noncomputable def s378 : Str := ⟨⟨[nat_lit 85, nat_lit 110, nat_lit 98, nat_lit 111, nat_lit 117, nat_lit 110, nat_lit 100, nat_lit 76, nat_lit 111, nat_lit 99, nat_lit 97, nat_lit 108, nat_lit 69, nat_lit 114, nat_lit 114, nat_lit 111, nat_lit 114]⟩⟩
noncomputable def s379 : Str := ⟨⟨[nat_lit 85, nat_lit 110, nat_lit 105, nat_lit 99, nat_lit 111, nat_lit 100, nat_lit 101, nat_lit 69, nat_lit 114, nat_lit 114, nat_lit 111, nat_lit 114]⟩⟩
noncomputable def s380 : Str := ⟨⟨[nat_lit 66, nat_lit 114, nat_lit 111, nat_lit 107, nat_lit 101, nat_lit 110, nat_lit 80, nat_lit 105, nat_lit 112, nat_lit 101, nat_lit 69, nat_lit 114, nat_lit 114, nat_lit 111, nat_lit 114]⟩⟩
noncomputable def s381 : Str := ⟨⟨[nat_lit 67, nat_lit 111, nat_lit 110, nat_lit 110, nat_lit 101, nat_lit 99, nat_lit 116, nat_lit 105, nat_lit 111, nat_lit 110, nat_lit 65, nat_lit 98, nat_lit 111, nat_lit 114, nat_lit 116, nat_lit 101, nat_lit 100, nat_lit 69, nat_lit 114, nat_lit 114, nat_lit 111, nat_lit 114]⟩⟩
noncomputable def s382 : Str := ⟨⟨[nat_lit 67, nat_lit 111, nat_lit 110, nat_lit 110, nat_lit 101, nat_lit 99, nat_lit 116, nat_lit 105, nat_lit 111, nat_lit 110, nat_lit 82, nat_lit 101, nat_lit 102, nat_lit 117, nat_lit 115, nat_lit 101, nat_lit 100, nat_lit 69, nat_lit 114, nat_lit 114, nat_lit 111, nat_lit 114]⟩⟩
noncomputable def s383 : Str := ⟨⟨[nat_lit 67, nat_lit 111, nat_lit 110, nat_lit 110, nat_lit 101, nat_lit 99, nat_lit 116, nat_lit 105, nat_lit 111, nat_lit 110, nat_lit 82, nat_lit 101, nat_lit 115, nat_lit 101, nat_lit 116, nat_lit 69, nat_lit 114, nat_lit 114, nat_lit 111, nat_lit 114]⟩⟩
noncomputable def s384 : Str := ⟨⟨[nat_lit 84, nat_lit 97, nat_lit 98, nat_lit 69, nat_lit 114, nat_lit 114, nat_lit 111, nat_lit 114]⟩⟩
noncomputable def s385 : Str := ⟨⟨[nat_lit 85, nat_lit 110, nat_lit 105, nat_lit 99, nat_lit 111, nat_lit 100, nat_lit 101, nat_lit 68, nat_lit 101, nat_lit 99, nat_lit 111, nat_lit 100, nat_lit 101, nat_lit 69, nat_lit 114, nat_lit 114, nat_lit 111, nat_lit 114]⟩⟩
noncomputable def s386 : Str := ⟨⟨[nat_lit 85, nat_lit 110, nat_lit 105, nat_lit 99, nat_lit 111, nat_lit 100, nat_lit 101, nat_lit 69, nat_lit 110, nat_lit 99, nat_lit 111, nat_lit 100, nat_lit 101, nat_lit 69, nat_lit 114, nat_lit 114, nat_lit 111, nat_lit 114]⟩⟩
noncomputable def s387 : Str := ⟨⟨[nat_lit 85, nat_lit 110, nat_lit 105, nat_lit 99, nat_lit 111, nat_lit 100, nat_lit 101, nat_lit 84, nat_lit 114, nat_lit 97, nat_lit 110, nat_lit 115, nat_lit 108, nat_lit 97, nat_lit 116, nat_lit 101, nat_lit 69, nat_lit 114, nat_lit 114, nat_lit 111, nat_lit 114]⟩⟩
noncomputable def s388 : Str := ⟨⟨[nat_lit 69, nat_lit 120, nat_lit 99, nat_lit 101, nat_lit 112, nat_lit 116, nat_lit 105, nat_lit 111, nat_lit 110, nat_lit 71, nat_lit 114, nat_lit 111, nat_lit 117, nat_lit 112]⟩⟩
noncomputable def s389 : Str := ⟨⟨[nat_lit 69, nat_lit 110, nat_lit 118, nat_lit 105, nat_lit 114, nat_lit 111, nat_lit 110, nat_lit 109, nat_lit 101, nat_lit 110, nat_lit 116, nat_lit 69, nat_lit 114, nat_lit 114, nat_lit 111, nat_lit 114]⟩⟩
noncomputable def s390 : Str := ⟨⟨[nat_lit 73, nat_lit 79, nat_lit 69, nat_lit 114, nat_lit 114, nat_lit 111, nat_lit 114]⟩⟩
noncomputable def s391 : Str := ⟨⟨[nat_lit 111, nat_lit 112, nat_lit 101, nat_lit 110]⟩⟩
noncomputable def s392 : Str := ⟨⟨[nat_lit 113, nat_lit 117, nat_lit 105, nat_lit 116]⟩⟩
noncomputable def s393 : Str := ⟨⟨[nat_lit 101, nat_lit 120, nat_lit 105, nat_lit 116]⟩⟩
noncomputable def s394 : Str := ⟨⟨[nat_lit 99, nat_lit 111, nat_lit 112, nat_lit 121, nat_lit 114, nat_lit 105, nat_lit 103, nat_lit 104, nat_lit 116]⟩⟩
noncomputable def s395 : Str := ⟨⟨[nat_lit 99, nat_lit 114, nat_lit 101, nat_lit 100, nat_lit 105, nat_lit 116, nat_lit 115]⟩⟩
noncomputable def s396 : Str := ⟨⟨[nat_lit 108, nat_lit 105, nat_lit 99, nat_lit 101, nat_lit 110, nat_lit 115, nat_lit 101]⟩⟩
noncomputable def s397 : Str := ⟨⟨[nat_lit 104, nat_lit 101, nat_lit 108, nat_lit 112]⟩⟩
noncomputable def o0_243 (P : Params) : Obj := ⟨(.type SL.s14018661285674007319x4), none, (.dict ⟨[⟨(PySem.PyData.keyHash P s2), (.str s2 1), (.str s255 160)⟩, ⟨(PySem.PyData.keyHash P s256), (.str s256 2), (.builtin "builtins.__doc__:str#opaque")⟩, ⟨(PySem.PyData.keyHash P s257), (.str s257 3), (.builtin "builtins.__package__:str#opaque")⟩, ⟨(PySem.PyData.keyHash P s258), (.str s258 4), (.builtin "builtins.__loader__:shared#opaque")⟩, ⟨(PySem.PyData.keyHash P s259), (.str s259 5), (.builtin SL.s11665532747177232413x24)⟩, ⟨(PySem.PyData.keyHash P s260), (.str s260 6), (.builtin SL.s15183661809925369436x15)⟩, ⟨(PySem.PyData.keyHash P s261), (.str s261 7), (.builtin SL.s13915890719876406383x10)⟩, ⟨(PySem.PyData.keyHash P s245), (.str s245 8), (.builtin SL.s13459172003223722735x3)⟩, ⟨(PySem.PyData.keyHash P s262), (.str s262 9), (.builtin SL.s10557405761357834076x3)⟩, ⟨(PySem.PyData.keyHash P s263), (.str s263 10), (.builtin SL.s4233737765568776869x3)⟩, ⟨(PySem.PyData.keyHash P s264), (.str s264 11), (.builtin SL.s2508922471967985374x5)⟩, ⟨(PySem.PyData.keyHash P s265), (.str s265 12), (.builtin SL.s15574269061696679450x3)⟩, ⟨(PySem.PyData.keyHash P s266), (.str s266 13), (.builtin SL.s6016482663378992977x10)⟩, ⟨(PySem.PyData.keyHash P s267), (.str s267 14), (.builtin SL.s5596568736180474577x8)⟩, ⟨(PySem.PyData.keyHash P s268), (.str s268 15), (.builtin SL.s2839554839881490554x3)⟩, ⟨(PySem.PyData.keyHash P s269), (.str s269 16), (.builtin SL.s725004073602090463x7)⟩, ⟨(PySem.PyData.keyHash P s270), (.str s270 17), (.builtin SL.s9436932552931045734x7)⟩, ⟨(PySem.PyData.keyHash P s271), (.str s271 18), (.builtin SL.s2754603736356183583x3)⟩, ⟨(PySem.PyData.keyHash P s272), (.str s272 19), (.builtin SL.s15185746759980889043x6)⟩, ⟨(PySem.PyData.keyHash P s273), (.str s273 20), (.builtin SL.s8192189862530294059x4)⟩, ⟨(PySem.PyData.keyHash P s274), (.str s274 21), (.builtin SL.s7038307821325472102x4)⟩, ⟨(PySem.PyData.keyHash P s275), (.str s275 22), (.builtin SL.s5662562618415449548x6)⟩, ⟨(PySem.PyData.keyHash P s276), (.str s276 23), (.builtin SL.s15281542589158584767x7)⟩, ⟨(PySem.PyData.keyHash P s119), (.str s119 24), (.builtin SL.s17651547275483570877x7)⟩, ⟨(PySem.PyData.keyHash P s277), (.str s277 25), (.builtin SL.s4036449017235975746x7)⟩, ⟨(PySem.PyData.keyHash P s278), (.str s278 26), (.builtin SL.s8879979712987360175x4)⟩, ⟨(PySem.PyData.keyHash P s279), (.str s279 27), (.builtin SL.s1801250619170735830x3)⟩, ⟨(PySem.PyData.keyHash P s280), (.str s280 28), (.builtin SL.s17659931425627118568x2)⟩, ⟨(PySem.PyData.keyHash P s281), (.str s281 29), (.builtin SL.s6063217899685152688x5)⟩, ⟨(PySem.PyData.keyHash P s45), (.str s45 30), (.builtin SL.s8008927332132565319x10)⟩, ⟨(PySem.PyData.keyHash P s282), (.str s282 31), (.builtin SL.s3544116645089599534x10)⟩, ⟨(PySem.PyData.keyHash P s283), (.str s283 32), (.builtin SL.s13761710972054866084x4)⟩, ⟨(PySem.PyData.keyHash P s284), (.str s284 33), (.builtin SL.s12896375587409280029x5)⟩, ⟨(PySem.PyData.keyHash P s7), (.str s7 34), (.builtin SL.s13014049009108672802x3)⟩, ⟨(PySem.PyData.keyHash P s285), (.str s285 35), (.builtin SL.s13935586738268321596x6)⟩, ⟨(PySem.PyData.keyHash P s107), (.str s107 36), (.builtin SL.s8200498257699607233x3)⟩, ⟨(PySem.PyData.keyHash P s106), (.str s106 37), (.builtin SL.s14114244577727609259x3)⟩, ⟨(PySem.PyData.keyHash P s161), (.str s161 38), (.builtin SL.s1499430450269397089x4)⟩, ⟨(PySem.PyData.keyHash P s286), (.str s286 39), (.builtin SL.s8755793994789770505x5)⟩, ⟨(PySem.PyData.keyHash P s287), (.str s287 40), (.builtin SL.s15725212667919936108x3)⟩, ⟨(PySem.PyData.keyHash P s288), (.str s288 41), (.builtin SL.s15791221867095933363x3)⟩, ⟨(PySem.PyData.keyHash P s289), (.str s289 42), (.builtin SL.s81309575031448614x3)⟩, ⟨(PySem.PyData.keyHash P s290), (.str s290 43), (.builtin SL.s8069831620301644142x5)⟩, ⟨(PySem.PyData.keyHash P s291), (.str s291 44), (.builtin SL.s10061844253413749634x4)⟩, ⟨(PySem.PyData.keyHash P s292), (.str s292 45), (.builtin SL.s9496514870978017513x5)⟩, ⟨(PySem.PyData.keyHash P s293), (.str s293 46), (.builtin SL.s8899691144933366716x7)⟩, ⟨(PySem.PyData.keyHash P s294), (.str s294 47), (.builtin SL.s15201008993051130160x6)⟩, ⟨(PySem.PyData.keyHash P s295), (.str s295 48), (.builtin SL.s741896355592496720x3)⟩, ⟨(PySem.PyData.keyHash P s296), (.str s296 49), (.builtin SL.s17925004256654032244x4)⟩, ⟨(PySem.PyData.keyHash P s297), (.str s297 50), .none⟩, ⟨(PySem.PyData.keyHash P s298), (.str s298 51), .ellipsis⟩, ⟨(PySem.PyData.keyHash P s299), (.str s299 52), .notImplemented⟩, ⟨(PySem.PyData.keyHash P s300), (.str s300 53), (.bool false)⟩, ⟨(PySem.PyData.keyHash P s301), (.str s301 54), (.bool true)⟩, ⟨(PySem.PyData.keyHash P s47), (.str s47 55), (.type SL.s11695548795398191787x4)⟩, ⟨(PySem.PyData.keyHash P s302), (.str s302 56), (.type SL.s4156966113859768872x10)⟩, ⟨(PySem.PyData.keyHash P s303), (.str s303 57), (.type SL.s9501651726347032510x9)⟩, ⟨(PySem.PyData.keyHash P s49), (.str s49 58), (.type SL.s15722918466584999320x5)⟩, ⟨(PySem.PyData.keyHash P s304), (.str s304 59), (.type SL.s591115383303110208x11)⟩, ⟨(PySem.PyData.keyHash P s305), (.str s305 60), (.type SL.s15721156781594690315x7)⟩, ⟨(PySem.PyData.keyHash P s306), (.str s306 61), (.type SL.s14018661285674007319x4)⟩, ⟨(PySem.PyData.keyHash P s200), (.str s200 62), (.type SL.s14340494229221121180x9)⟩, ⟨(PySem.PyData.keyHash P s307), (.str s307 63), (.type SL.s13429844117177748173x6)⟩, ⟨(PySem.PyData.keyHash P s308), (.str s308 64), (.type SL.s16463266125957815391x5)⟩, ⟨(PySem.PyData.keyHash P s309), (.str s309 65), (.type SL.s4922535414793169389x9)⟩, ⟨(PySem.PyData.keyHash P s68), (.str s68 66), (.type SL.s8101838861749082086x8)⟩, ⟨(PySem.PyData.keyHash P s46), (.str s46 67), (.type SL.s7066276694103001551x3)⟩, ⟨(PySem.PyData.keyHash P s310), (.str s310 68), (.type SL.s9222952809800978799x4)⟩, ⟨(PySem.PyData.keyHash P s311), (.str s311 69), (.type SL.s462964344163437139x3)⟩, ⟨(PySem.PyData.keyHash P s312), (.str s312 70), (.type SL.s2742458400755230247x6)⟩, ⟨(PySem.PyData.keyHash P s108), (.str s108 71), (.type SL.s1438033511350832697x5)⟩, ⟨(PySem.PyData.keyHash P s201), (.str s201 72), (.type SL.s14365286008749172514x8)⟩, ⟨(PySem.PyData.keyHash P s70), (.str s70 73), (.type SL.s3642769012341782148x3)⟩, ⟨(PySem.PyData.keyHash P s313), (.str s313 74), (.type SL.s4674234679698826739x5)⟩, ⟨(PySem.PyData.keyHash P s314), (.str s314 75), (.type SL.s16656946322747308186x12)⟩, ⟨(PySem.PyData.keyHash P s315), (.str s315 76), (.type SL.s10796804682411823810x3)⟩, ⟨(PySem.PyData.keyHash P s316), (.str s316 77), (.type SL.s4290257624100764138x5)⟩, ⟨(PySem.PyData.keyHash P s317), (.str s317 78), (.type SL.s2766695959194262286x5)⟩, ⟨(PySem.PyData.keyHash P s318), (.str s318 79), (.type SL.s17162191345867700912x4)⟩, ⟨(PySem.PyData.keyHash P s319), (.str s319 80), (.type SL.s14339709457334898076x3)⟩, ⟨(PySem.PyData.keyHash P s320), (.str s320 81), (.bool true)⟩, ⟨(PySem.PyData.keyHash P s321), (.str s321 82), (.type SL.s4278001404047624695x13)⟩, ⟨(PySem.PyData.keyHash P s322), (.str s322 83), (.type SL.s6585700554429387442x18)⟩, ⟨(PySem.PyData.keyHash P s34), (.str s34 84), (.type SL.s5946037652744460706x9)⟩, ⟨(PySem.PyData.keyHash P s323), (.str s323 85), (.type SL.s7410770068591931388x13)⟩, ⟨(PySem.PyData.keyHash P s324), (.str s324 86), (.type SL.s11817881795495490833x17)⟩, ⟨(PySem.PyData.keyHash P s325), (.str s325 87), (.type SL.s15679963881808890155x10)⟩, ⟨(PySem.PyData.keyHash P s326), (.str s326 88), (.type SL.s3871700062485845797x15)⟩, ⟨(PySem.PyData.keyHash P s327), (.str s327 89), (.type SL.s7689518266570723881x14)⟩, ⟨(PySem.PyData.keyHash P s328), (.str s328 90), (.type SL.s9001593270443806431x14)⟩, ⟨(PySem.PyData.keyHash P s329), (.str s329 91), (.type SL.s6882542574934516792x11)⟩, ⟨(PySem.PyData.keyHash P s330), (.str s330 92), (.type SL.s14403400214490484960x8)⟩, ⟨(PySem.PyData.keyHash P s331), (.str s331 93), (.type SL.s14457978657717015782x11)⟩, ⟨(PySem.PyData.keyHash P s332), (.str s332 94), (.type SL.s1753610191782819921x11)⟩, ⟨(PySem.PyData.keyHash P s333), (.str s333 95), (.type SL.s14119380538032626715x11)⟩, ⟨(PySem.PyData.keyHash P s334), (.str s334 96), (.type SL.s11437920000406562045x9)⟩, ⟨(PySem.PyData.keyHash P s335), (.str s335 97), (.type SL.s10852414792293593619x7)⟩, ⟨(PySem.PyData.keyHash P s336), (.str s336 98), (.type SL.s14816307405966870543x14)⟩, ⟨(PySem.PyData.keyHash P s337), (.str s337 99), (.type SL.s8682627914449686677x12)⟩, ⟨(PySem.PyData.keyHash P s338), (.str s338 100), (.type SL.s4428170145600203450x18)⟩, ⟨(PySem.PyData.keyHash P s339), (.str s339 101), (.type SL.s5991306692159431302x13)⟩, ⟨(PySem.PyData.keyHash P s340), (.str s340 102), (.type SL.s16067994140765818257x11)⟩, ⟨(PySem.PyData.keyHash P s341), (.str s341 103), (.type SL.s2327743974964600596x11)⟩, ⟨(PySem.PyData.keyHash P s342), (.str s342 104), (.type SL.s2804747833354056582x9)⟩, ⟨(PySem.PyData.keyHash P s343), (.str s343 105), (.type SL.s6070975301684473832x10)⟩, ⟨(PySem.PyData.keyHash P s344), (.str s344 106), (.type SL.s14270485950484850486x7)⟩, ⟨(PySem.PyData.keyHash P s345), (.str s345 107), (.type SL.s12041534306414923332x18)⟩, ⟨(PySem.PyData.keyHash P s346), (.str s346 108), (.type SL.s2531307568338490285x13)⟩, ⟨(PySem.PyData.keyHash P s347), (.str s347 109), (.type SL.s631175304937289666x17)⟩, ⟨(PySem.PyData.keyHash P s348), (.str s348 110), (.type SL.s5144983644357021410x12)⟩, ⟨(PySem.PyData.keyHash P s349), (.str s349 111), (.type SL.s18039099521571816885x18)⟩, ⟨(PySem.PyData.keyHash P s350), (.str s350 112), (.type SL.s6011586214260557989x15)⟩, ⟨(PySem.PyData.keyHash P s351), (.str s351 113), (.type SL.s5430567037509283100x13)⟩, ⟨(PySem.PyData.keyHash P s352), (.str s352 114), (.type SL.s8117915138073963741x13)⟩, ⟨(PySem.PyData.keyHash P s353), (.str s353 115), (.type SL.s3423317712779056401x25)⟩, ⟨(PySem.PyData.keyHash P s354), (.str s354 116), (.type SL.s2007317383269046180x15)⟩, ⟨(PySem.PyData.keyHash P s355), (.str s355 117), (.type SL.s17481586968713580700x14)⟩, ⟨(PySem.PyData.keyHash P s356), (.str s356 118), (.type SL.s2450899226349176912x13)⟩, ⟨(PySem.PyData.keyHash P s357), (.str s357 119), (.type SL.s16626165730633575011x14)⟩, ⟨(PySem.PyData.keyHash P s358), (.str s358 120), (.type SL.s14288496050688921416x11)⟩, ⟨(PySem.PyData.keyHash P s359), (.str s359 121), (.type SL.s5735081916595925998x15)⟩, ⟨(PySem.PyData.keyHash P s360), (.str s360 122), (.type SL.s3865607918536308442x17)⟩, ⟨(PySem.PyData.keyHash P s361), (.str s361 123), (.type SL.s13337502604062700212x15)⟩, ⟨(PySem.PyData.keyHash P s362), (.str s362 124), (.type SL.s13114017843053701147x15)⟩, ⟨(PySem.PyData.keyHash P s363), (.str s363 125), (.type SL.s17467278006356818441x17)⟩, ⟨(PySem.PyData.keyHash P s364), (.str s364 126), (.type SL.s17722149559621369488x16)⟩, ⟨(PySem.PyData.keyHash P s365), (.str s365 127), (.type SL.s7855274175708717672x17)⟩, ⟨(PySem.PyData.keyHash P s366), (.str s366 128), (.type SL.s13351283678309829046x18)⟩, ⟨(PySem.PyData.keyHash P s367), (.str s367 129), (.type SL.s6668348653404991179x15)⟩, ⟨(PySem.PyData.keyHash P s368), (.str s368 130), (.type SL.s12913350958174193794x18)⟩, ⟨(PySem.PyData.keyHash P s369), (.str s369 131), (.type SL.s16115879512475548326x12)⟩, ⟨(PySem.PyData.keyHash P s370), (.str s370 132), (.type SL.s15920661018069861047x16)⟩, ⟨(PySem.PyData.keyHash P s371), (.str s371 133), (.type SL.s10779130036587390575x21)⟩, ⟨(PySem.PyData.keyHash P s372), (.str s372 134), (.type SL.s7801419657504700863x10)⟩, ⟨(PySem.PyData.keyHash P s373), (.str s373 135), (.type SL.s1688129525768580628x8)⟩, ⟨(PySem.PyData.keyHash P s374), (.str s374 136), (.type SL.s1031832959479892071x19)⟩, ⟨(PySem.PyData.keyHash P s375), (.str s375 137), (.type SL.s8991790508128307865x19)⟩, ⟨(PySem.PyData.keyHash P s376), (.str s376 138), (.type SL.s14539662485746970245x23)⟩, ⟨(PySem.PyData.keyHash P s377), (.str s377 139), (.type SL.s11643622729373238714x14)⟩, ⟨(PySem.PyData.keyHash P s378), (.str s378 140), (.type SL.s3386828779285465597x17)⟩, ⟨(PySem.PyData.keyHash P s379), (.str s379 141), (.type SL.s13042696260734638735x12)⟩, ⟨(PySem.PyData.keyHash P s380), (.str s380 142), (.type SL.s18239426817015966623x15)⟩, ⟨(PySem.PyData.keyHash P s381), (.str s381 143), (.type SL.s1270395311379034370x22)⟩, ⟨(PySem.PyData.keyHash P s382), (.str s382 144), (.type SL.s10696252587037064777x22)⟩, ⟨(PySem.PyData.keyHash P s383), (.str s383 145), (.type SL.s7852717498200857586x20)⟩, ⟨(PySem.PyData.keyHash P s384), (.str s384 146), (.type SL.s6377248116197321094x8)⟩, ⟨(PySem.PyData.keyHash P s385), (.str s385 147), (.type SL.s3834378056692298002x18)⟩, ⟨(PySem.PyData.keyHash P s386), (.str s386 148), (.type SL.s17586630440231065808x18)⟩, ⟨(PySem.PyData.keyHash P s387), (.str s387 149), (.type SL.s15234114252648025395x21)⟩, ⟨(PySem.PyData.keyHash P s388), (.str s388 150), (.type SL.s8496462677383758984x14)⟩, ⟨(PySem.PyData.keyHash P s389), (.str s389 151), (.type SL.s10852414792293593619x7)⟩, ⟨(PySem.PyData.keyHash P s390), (.str s390 152), (.type SL.s10852414792293593619x7)⟩, ⟨(PySem.PyData.keyHash P s391), (.str s391 153), (.builtin SL.s16789243406116112673x4)⟩, ⟨(PySem.PyData.keyHash P s392), (.str s392 154), (.builtin SL.s14400166428656793546x20)⟩, ⟨(PySem.PyData.keyHash P s393), (.str s393 155), (.builtin SL.s5857708277339239366x20)⟩, ⟨(PySem.PyData.keyHash P s394), (.str s394 156), (.builtin "builtins.copyright#opaque")⟩, ⟨(PySem.PyData.keyHash P s395), (.str s395 157), (.builtin "builtins.credits#opaque")⟩, ⟨(PySem.PyData.keyHash P s396), (.str s396 158), (.builtin "builtins.license#opaque")⟩, ⟨(PySem.PyData.keyHash P s397), (.str s397 159), (.builtin SL.s7804999707787243718x20)⟩]⟩ 159), ⟨[]⟩⟩
noncomputable def s398 : Str := ⟨⟨[nat_lit 95, nat_lit 95, nat_lit 109, nat_lit 97, nat_lit 105, nat_lit 110, nat_lit 95, nat_lit 95]⟩⟩
noncomputable def o1_244 (P : Params) : Obj := ⟨(.type SL.s14018661285674007319x4), none, (.dict ⟨[⟨(PySem.PyData.keyHash P s255), (.str s255 162), (.ref 4)⟩, ⟨(PySem.PyData.keyHash P s398), (.str s398 163), (.ref 5)⟩]⟩ 2), ⟨[]⟩⟩
noncomputable def o2_245 (_ : Params) : Obj := ⟨.none, none, (.dict ⟨[]⟩ 0), ⟨[]⟩⟩
noncomputable def s399 : Str := ⟨⟨[nat_lit 95, nat_lit 95, nat_lit 97, nat_lit 110, nat_lit 110, nat_lit 111, nat_lit 116, nat_lit 97, nat_lit 116, nat_lit 105, nat_lit 111, nat_lit 110, nat_lit 115, nat_lit 95, nat_lit 95]⟩⟩
noncomputable def s400 : Str := ⟨⟨[nat_lit 95, nat_lit 95, nat_lit 98, nat_lit 117, nat_lit 105, nat_lit 108, nat_lit 116, nat_lit 105, nat_lit 110, nat_lit 115, nat_lit 95, nat_lit 95]⟩⟩
noncomputable def s401 : Str := ⟨⟨[nat_lit 95, nat_lit 95, nat_lit 102, nat_lit 105, nat_lit 108, nat_lit 101, nat_lit 95, nat_lit 95]⟩⟩
noncomputable def s402 : Str := ⟨⟨[nat_lit 47, nat_lit 99, nat_lit 108, nat_lit 97, nat_lit 105, nat_lit 109, nat_lit 47, nat_lit 99, nat_lit 117, nat_lit 116, nat_lit 46, nat_lit 112, nat_lit 121]⟩⟩
noncomputable def s403 : Str := ⟨⟨[nat_lit 95, nat_lit 95, nat_lit 99, nat_lit 97, nat_lit 99, nat_lit 104, nat_lit 101, nat_lit 100, nat_lit 95, nat_lit 95]⟩⟩
noncomputable def o3_246 (P : Params) : Obj := ⟨(.type SL.s14018661285674007319x4), none, (.dict ⟨[⟨(PySem.PyData.keyHash P s2), (.str s2 165), (.str s398 164)⟩, ⟨(PySem.PyData.keyHash P s256), (.str s256 166), .none⟩, ⟨(PySem.PyData.keyHash P s257), (.str s257 167), .none⟩, ⟨(PySem.PyData.keyHash P s258), (.str s258 168), (.builtin SL.s7097527257260152453x26)⟩, ⟨(PySem.PyData.keyHash P s259), (.str s259 169), .none⟩, ⟨(PySem.PyData.keyHash P s399), (.str s399 170), (.ref 6)⟩, ⟨(PySem.PyData.keyHash P s400), (.str s400 171), (.ref 4)⟩, ⟨(PySem.PyData.keyHash P s401), (.str s401 173), (.str s402 172)⟩, ⟨(PySem.PyData.keyHash P s403), (.str s403 174), .none⟩]⟩ 9), ⟨[]⟩⟩
noncomputable def o4_247 (_ : Params) : Obj := ⟨(.type SL.s6658869562736209489x6), (some 0), .plain, ⟨[]⟩⟩
noncomputable def o5_248 (_ : Params) : Obj := ⟨(.type SL.s6658869562736209489x6), (some 3), .plain, ⟨[]⟩⟩
noncomputable def o6_249 (_ : Params) : Obj := ⟨(.type SL.s14018661285674007319x4), none, (.dict ⟨[]⟩ 0), ⟨[]⟩⟩
noncomputable def o7_250 (_ : Params) : Obj := ⟨(.type SL.s2766695959194262286x5), none, (.seq ⟨[]⟩ 0), ⟨[]⟩⟩
noncomputable def o8_251 (_ : Params) : Obj := ⟨.none, none, (.fields ⟨[]⟩), ⟨[]⟩⟩
noncomputable def s404 : Str := ⟨⟨[nat_lit 60, nat_lit 109, nat_lit 111, nat_lit 100, nat_lit 117, nat_lit 108, nat_lit 101, nat_lit 62]⟩⟩
noncomputable def o9_252 (_ : Params) : Obj := ⟨(.type SL.s5856160107412720595x4), none, (.fields ⟨[(.str s404 176), (.str s404 177), (.str s402 178), (.int 1 0), (.int 0 0), (.int 0 0), (.int 0 0), (.int 0 0), (.ref 7), (.bool false), (.int 175 0), (.ref 8), .none, .none, .none, .none, (.int 179 0), (.int 1 0), (.str s402 180)]⟩), ⟨[]⟩⟩
noncomputable def o10_253 (_ : Params) : Obj := ⟨(.type SL.s658472552662922059x5), none, .plain, ⟨[(some (.ref 9)), (some (.ref 3)), (some (.ref 3)), none, (some (.str s398 164)), none, (some (.ref 0))]⟩⟩
noncomputable def o11_254 (_ : Params) : Obj := ⟨(.type SL.s2766695959194262286x5), none, (.seq ⟨[]⟩ 0), ⟨[]⟩⟩
noncomputable def o12_255 (_ : Params) : Obj := ⟨.none, none, (.fields ⟨[]⟩), ⟨[]⟩⟩
noncomputable def o13_256 (_ : Params) : Obj := ⟨(.type SL.s5856160107412720595x4), none, (.fields ⟨[(.str s404 182), (.str s404 183), (.str s402 184), (.int 1 0), (.int 0 0), (.int 0 0), (.int 0 0), (.int 0 0), (.ref 11), (.bool false), (.int 181 0), (.ref 12), .none, .none, .none, .none, (.int 185 0), (.int 1 0), (.str s402 186)]⟩), ⟨[]⟩⟩
noncomputable def o14_257 (_ : Params) : Obj := ⟨(.type SL.s658472552662922059x5), none, .plain, ⟨[(some (.ref 13)), (some (.ref 3)), (some (.ref 3)), none, (some (.str s398 164)), none, (some (.ref 0))]⟩⟩
noncomputable def T0 (P : Params) : BT := (.node (o0_243 P) (.node (o1_244 P) (.node (o3_246 P) (.node (o7_250 P) .nil .nil) (.node (o11_254 P) .nil .nil)) (.node (o5_248 P) (.node (o9_252 P) .nil .nil) (.node (o13_256 P) .nil .nil))) (.node (o2_245 P) (.node (o4_247 P) (.node (o8_251 P) .nil .nil) (.node (o12_255 P) .nil .nil)) (.node (o6_249 P) (.node (o10_253 P) .nil .nil) (.node (o14_257 P) .nil .nil))))
noncomputable def s405 : Str := ⟨⟨[nat_lit 116, nat_lit 121, nat_lit 112, nat_lit 101, nat_lit 46, nat_lit 95, nat_lit 95, nat_lit 115, nat_lit 117, nat_lit 98, nat_lit 99, nat_lit 108, nat_lit 97, nat_lit 115, nat_lit 115, nat_lit 101, nat_lit 115, nat_lit 95, nat_lit 95, nat_lit 46, nat_lit 69, nat_lit 120, nat_lit 99, nat_lit 101, nat_lit 112, nat_lit 116, nat_lit 105, nat_lit 111, nat_lit 110, nat_lit 46, nat_lit 48]⟩⟩
noncomputable def s406 : Str := ⟨⟨[nat_lit 116, nat_lit 121, nat_lit 112, nat_lit 101, nat_lit 46, nat_lit 95, nat_lit 95, nat_lit 115, nat_lit 117, nat_lit 98, nat_lit 99, nat_lit 108, nat_lit 97, nat_lit 115, nat_lit 115, nat_lit 101, nat_lit 115, nat_lit 95, nat_lit 95, nat_lit 46, nat_lit 69, nat_lit 120, nat_lit 99, nat_lit 101, nat_lit 112, nat_lit 116, nat_lit 105, nat_lit 111, nat_lit 110, nat_lit 46, nat_lit 110]⟩⟩
noncomputable def o2_258 (P : Params) : Obj := ⟨.none, none, (.dict ⟨[⟨(PySem.PyData.keyHash P s405), (.str s405 325), (.int 81 0)⟩, ⟨(PySem.PyData.keyHash P s406), (.str s406 326), (.int 1 0)⟩]⟩ 2), ⟨[]⟩⟩
noncomputable def o3_259 (P : Params) : Obj := ⟨(.type SL.s14018661285674007319x4), none, (.dict ⟨[⟨(PySem.PyData.keyHash P s2), (.str s2 165), (.str s8 204)⟩, ⟨(PySem.PyData.keyHash P s256), (.str s256 166), .none⟩, ⟨(PySem.PyData.keyHash P s257), (.str s257 167), .none⟩, ⟨(PySem.PyData.keyHash P s258), (.str s258 168), (.builtin SL.s7097527257260152453x26)⟩, ⟨(PySem.PyData.keyHash P s259), (.str s259 169), .none⟩, ⟨(PySem.PyData.keyHash P s399), (.str s399 170), (.ref 6)⟩, ⟨(PySem.PyData.keyHash P s400), (.str s400 171), (.ref 4)⟩, ⟨(PySem.PyData.keyHash P s401), (.str s401 173), (.str s402 172)⟩, ⟨(PySem.PyData.keyHash P s403), (.str s403 174), .none⟩, ⟨(PySem.PyData.keyHash P s0), (.str s0 193), (.ref 21)⟩, ⟨(PySem.PyData.keyHash P s4), (.str s4 203), (.ref 28)⟩, ⟨(PySem.PyData.keyHash P s9), (.str s9 208), (.int (-1) 207)⟩, ⟨(PySem.PyData.keyHash P s10), (.str s10 210), (.int 0 209)⟩, ⟨(PySem.PyData.keyHash P s11), (.str s11 212), (.int 1 211)⟩, ⟨(PySem.PyData.keyHash P s12), (.str s12 214), (.int 2 213)⟩, ⟨(PySem.PyData.keyHash P s13), (.str s13 216), (.int 3 215)⟩, ⟨(PySem.PyData.keyHash P s14), (.str s14 218), (.int 4 217)⟩, ⟨(PySem.PyData.keyHash P s15), (.str s15 220), (.int 5 219)⟩, ⟨(PySem.PyData.keyHash P s16), (.str s16 222), (.int 8 221)⟩, ⟨(PySem.PyData.keyHash P s17), (.str s17 224), (.int 10 223)⟩, ⟨(PySem.PyData.keyHash P s18), (.str s18 226), (.int 4294967295 225)⟩, ⟨(PySem.PyData.keyHash P s19), (.str s19 297), (.ref 60)⟩, ⟨(PySem.PyData.keyHash P s33), (.str s33 328), (.ref 81)⟩]⟩ 23), ⟨[]⟩⟩
noncomputable def o12_260 (_ : Params) : Obj := ⟨.none, none, (.fields ⟨[(.int 1 0), (.int 0 0), (.ref 20), (.int 5 0), (.int 0 0), (.ref 27), (.int 19 0), (.int 0 0), (.ref 34), (.int 38 0), (.int 0 0), (.ref 70)]⟩), ⟨[]⟩⟩
noncomputable def o15_261 (_ : Params) : Obj := ⟨(.type SL.s2766695959194262286x5), none, (.seq ⟨[]⟩ 0), ⟨[]⟩⟩
noncomputable def o16_262 (_ : Params) : Obj := ⟨.none, none, (.fields ⟨[]⟩), ⟨[]⟩⟩
noncomputable def o17_263 (_ : Params) : Obj := ⟨(.type SL.s2766695959194262286x5), none, (.seq ⟨[(.str s1 190)]⟩ 0), ⟨[]⟩⟩
noncomputable def o18_264 (_ : Params) : Obj := ⟨(.type SL.s2766695959194262286x5), none, (.seq ⟨[]⟩ 0), ⟨[]⟩⟩
noncomputable def o19_265 (_ : Params) : Obj := ⟨.none, none, (.func ⟨s0, s0, a0, (.stmts (bAt 0)), c1, 0, [], .none, .none, .none, .none, none, .none, .none, 0⟩), ⟨[]⟩⟩
noncomputable def o20_266 (_ : Params) : Obj := ⟨(.type SL.s5856160107412720595x4), none, (.fields ⟨[(.str s0 187), (.str s0 188), (.str s402 189), (.int 1 0), (.int 1 0), (.int 0 0), (.int 0 0), (.int 3 0), (.ref 15), (.bool true), (.int 181 0), (.ref 16), .none, (.ref 17), (.ref 18), (.ref 19), (.int 191 0), (.int 1 0), (.str s402 192)]⟩), ⟨[]⟩⟩
noncomputable def o21_267 (_ : Params) : Obj := ⟨(.type SL.s7174869446012820540x8), none, (.func ⟨s0, s0, a0, (.stmts (bAt 0)), c1, 3, [], .none, .none, .none, (.str s398 164), none, (.ref 20), .none, 0⟩), ⟨[]⟩⟩
noncomputable def o22_268 (_ : Params) : Obj := ⟨(.type SL.s2766695959194262286x5), none, (.seq ⟨[]⟩ 0), ⟨[]⟩⟩
noncomputable def o23_269 (_ : Params) : Obj := ⟨.none, none, (.fields ⟨[]⟩), ⟨[]⟩⟩
noncomputable def o24_270 (_ : Params) : Obj := ⟨(.type SL.s2766695959194262286x5), none, (.seq ⟨[(.str s5 199), (.str s6 200)]⟩ 0), ⟨[]⟩⟩
noncomputable def o25_271 (_ : Params) : Obj := ⟨(.type SL.s2766695959194262286x5), none, (.seq ⟨[]⟩ 0), ⟨[]⟩⟩
noncomputable def o26_272 (_ : Params) : Obj := ⟨.none, none, (.func ⟨s4, s4, a4, (.stmts (bAt 2)), c5, 0, [], .none, .none, .none, .none, none, .none, .none, 0⟩), ⟨[]⟩⟩
noncomputable def o27_273 (_ : Params) : Obj := ⟨(.type SL.s5856160107412720595x4), none, (.fields ⟨[(.str s4 196), (.str s4 197), (.str s402 198), (.int 5 0), (.int 2 0), (.int 0 0), (.int 0 0), (.int 3 0), (.ref 22), (.bool true), (.int 181 0), (.ref 23), .none, (.ref 24), (.ref 25), (.ref 26), (.int 201 0), (.int 5 0), (.str s402 202)]⟩), ⟨[]⟩⟩
noncomputable def o28_274 (_ : Params) : Obj := ⟨(.type SL.s7174869446012820540x8), none, (.func ⟨s4, s4, a4, (.stmts (bAt 2)), c5, 3, [], .none, .none, .none, (.str s3 194), none, (.ref 27), .none, 0⟩), ⟨[]⟩⟩
noncomputable def o29_275 (_ : Params) : Obj := ⟨(.type SL.s2766695959194262286x5), none, (.seq ⟨[]⟩ 0), ⟨[]⟩⟩
noncomputable def o30_276 (_ : Params) : Obj := ⟨(.type SL.s11030030927630378310x26), none, (.fields ⟨[(.builtin SL.s10062305145149207511x16), (.type SL.s17162191345867700912x4)]⟩), ⟨[]⟩⟩
noncomputable def s407 : Str := ⟨⟨[nat_lit 95, nat_lit 95, nat_lit 109, nat_lit 111, nat_lit 100, nat_lit 117, nat_lit 108, nat_lit 101, nat_lit 95, nat_lit 95]⟩⟩
noncomputable def s408 : Str := ⟨⟨[nat_lit 95, nat_lit 95, nat_lit 113, nat_lit 117, nat_lit 97, nat_lit 108, nat_lit 110, nat_lit 97, nat_lit 109, nat_lit 101, nat_lit 95, nat_lit 95]⟩⟩
noncomputable def s409 : Str := ⟨⟨[nat_lit 95, nat_lit 95, nat_lit 102, nat_lit 105, nat_lit 114, nat_lit 115, nat_lit 116, nat_lit 108, nat_lit 105, nat_lit 110, nat_lit 101, nat_lit 110, nat_lit 111, nat_lit 95, nat_lit 95]⟩⟩
noncomputable def s410 : Str := ⟨⟨[nat_lit 95, nat_lit 95, nat_lit 115, nat_lit 116, nat_lit 97, nat_lit 116, nat_lit 105, nat_lit 99, nat_lit 95, nat_lit 97, nat_lit 116, nat_lit 116, nat_lit 114, nat_lit 105, nat_lit 98, nat_lit 117, nat_lit 116, nat_lit 101, nat_lit 115, nat_lit 95, nat_lit 95]⟩⟩
noncomputable def o31_277 (P : Params) : Obj := ⟨(.type SL.s14018661285674007319x4), none, (.dict ⟨[⟨(PySem.PyData.keyHash P s407), (.str s407 234), (.str s8 204)⟩, ⟨(PySem.PyData.keyHash P s408), (.str s408 236), (.str s19 235)⟩, ⟨(PySem.PyData.keyHash P s409), (.str s409 238), (.int 19 237)⟩, ⟨(PySem.PyData.keyHash P s20), (.str s20 265), (.ref 43)⟩, ⟨(PySem.PyData.keyHash P s31), (.str s31 272), (.ref 50)⟩, ⟨(PySem.PyData.keyHash P s32), (.str s32 279), (.ref 57)⟩, ⟨(PySem.PyData.keyHash P s410), (.str s410 290), (.ref 58)⟩]⟩ 7), ⟨[]⟩⟩
noncomputable def o32_278 (_ : Params) : Obj := ⟨(.type SL.s2766695959194262286x5), none, (.seq ⟨[]⟩ 0), ⟨[]⟩⟩
noncomputable def o33_279 (_ : Params) : Obj := ⟨.none, none, (.fields ⟨[(.int 21 0), (.int 4 0), (.ref 42), (.int 33 0), (.int 4 0), (.ref 49), (.int 36 0), (.int 4 0), (.ref 56)]⟩), ⟨[]⟩⟩
noncomputable def o34_280 (_ : Params) : Obj := ⟨(.type SL.s5856160107412720595x4), none, (.fields ⟨[(.str s19 229), (.str s19 230), (.str s402 231), (.int 19 0), (.int 0 0), (.int 0 0), (.int 0 0), (.int 0 0), (.ref 32), (.bool false), (.int 181 0), (.ref 33), .none, .none, .none, .none, (.int 232 0), (.int 19 0), (.str s402 233)]⟩), ⟨[]⟩⟩
noncomputable def o35_281 (_ : Params) : Obj := ⟨(.type SL.s658472552662922059x5), none, .plain, ⟨[(some (.ref 34)), (some (.ref 3)), (some (.ref 31)), none, (some (.str s8 204)), none, (some (.ref 0))]⟩⟩
noncomputable def o36_282 (_ : Params) : Obj := ⟨(.type SL.s2766695959194262286x5), none, (.seq ⟨[(.int 64 239), (.int 250 240), (.int 60 241), (.int 200 242), (.int 40 243), (.int 200 244), (.int 2000 245), (.int 50 246), (.int 1000000000 247), (.int 1000000 248)]⟩ 0), ⟨[]⟩⟩
noncomputable def o37_283 (_ : Params) : Obj := ⟨(.type SL.s2766695959194262286x5), none, (.seq ⟨[]⟩ 0), ⟨[]⟩⟩
noncomputable def o38_284 (_ : Params) : Obj := ⟨.none, none, (.fields ⟨[]⟩), ⟨[]⟩⟩
noncomputable def o39_285 (_ : Params) : Obj := ⟨(.type SL.s2766695959194262286x5), none, (.seq ⟨[(.str s21 252), (.str s22 253), (.str s23 254), (.str s24 255), (.str s25 256), (.str s26 257), (.str s5 258), (.str s27 259), (.str s28 260), (.str s29 261), (.str s30 262)]⟩ 0), ⟨[]⟩⟩
noncomputable def o40_286 (_ : Params) : Obj := ⟨(.type SL.s2766695959194262286x5), none, (.seq ⟨[]⟩ 0), ⟨[]⟩⟩
noncomputable def s411 : Str := ⟨⟨[nat_lit 76, nat_lit 105, nat_lit 109, nat_lit 105, nat_lit 116, nat_lit 115, nat_lit 46, nat_lit 95, nat_lit 95, nat_lit 105, nat_lit 110, nat_lit 105, nat_lit 116, nat_lit 95, nat_lit 95]⟩⟩
noncomputable def o41_287 (_ : Params) : Obj := ⟨.none, none, (.func ⟨s20, s411, a18, (.stmts (mAt 14 0)), c19, 0, [], .none, .none, .none, .none, none, .none, .none, 0⟩), ⟨[]⟩⟩
noncomputable def o42_288 (_ : Params) : Obj := ⟨(.type SL.s5856160107412720595x4), none, (.fields ⟨[(.str s20 249), (.str s411 250), (.str s402 251), (.int 21 0), (.int 11 0), (.int 0 0), (.int 0 0), (.int 3 0), (.ref 37), (.bool true), (.int 181 0), (.ref 38), .none, (.ref 39), (.ref 40), (.ref 41), (.int 263 0), (.int 21 0), (.str s402 264)]⟩), ⟨[]⟩⟩
noncomputable def o43_289 (_ : Params) : Obj := ⟨(.type SL.s7174869446012820540x8), none, (.func ⟨s20, s411, a18, (.stmts (mAt 14 0)), c19, 3, [], (.ref 36), .none, .none, (.str s8 204), none, (.ref 42), .none, 0⟩), ⟨[]⟩⟩
noncomputable def o44_290 (_ : Params) : Obj := ⟨(.type SL.s2766695959194262286x5), none, (.seq ⟨[]⟩ 0), ⟨[]⟩⟩
noncomputable def o45_291 (_ : Params) : Obj := ⟨.none, none, (.fields ⟨[]⟩), ⟨[]⟩⟩
noncomputable def o46_292 (_ : Params) : Obj := ⟨(.type SL.s2766695959194262286x5), none, (.seq ⟨[(.str s21 269)]⟩ 0), ⟨[]⟩⟩
noncomputable def o47_293 (_ : Params) : Obj := ⟨(.type SL.s2766695959194262286x5), none, (.seq ⟨[]⟩ 0), ⟨[]⟩⟩
noncomputable def s412 : Str := ⟨⟨[nat_lit 76, nat_lit 105, nat_lit 109, nat_lit 105, nat_lit 116, nat_lit 115, nat_lit 46, nat_lit 103, nat_lit 114, nat_lit 101, nat_lit 97, nat_lit 116, nat_lit 101, nat_lit 115, nat_lit 116]⟩⟩
noncomputable def o48_294 (_ : Params) : Obj := ⟨.none, none, (.func ⟨s31, s412, a20, (.stmts (mAt 14 1)), c21, 0, [], .none, .none, .none, .none, none, .none, .none, 0⟩), ⟨[]⟩⟩
noncomputable def o49_295 (_ : Params) : Obj := ⟨(.type SL.s5856160107412720595x4), none, (.fields ⟨[(.str s31 266), (.str s412 267), (.str s402 268), (.int 33 0), (.int 1 0), (.int 0 0), (.int 0 0), (.int 3 0), (.ref 44), (.bool true), (.int 181 0), (.ref 45), .none, (.ref 46), (.ref 47), (.ref 48), (.int 270 0), (.int 33 0), (.str s402 271)]⟩), ⟨[]⟩⟩
noncomputable def o50_296 (_ : Params) : Obj := ⟨(.type SL.s7174869446012820540x8), none, (.func ⟨s31, s412, a20, (.stmts (mAt 14 1)), c21, 3, [], .none, .none, .none, (.str s8 204), none, (.ref 49), .none, 0⟩), ⟨[]⟩⟩
noncomputable def o51_297 (_ : Params) : Obj := ⟨(.type SL.s2766695959194262286x5), none, (.seq ⟨[]⟩ 0), ⟨[]⟩⟩
noncomputable def o52_298 (_ : Params) : Obj := ⟨.none, none, (.fields ⟨[]⟩), ⟨[]⟩⟩
noncomputable def o53_299 (_ : Params) : Obj := ⟨(.type SL.s2766695959194262286x5), none, (.seq ⟨[(.str s21 276)]⟩ 0), ⟨[]⟩⟩
noncomputable def o54_300 (_ : Params) : Obj := ⟨(.type SL.s2766695959194262286x5), none, (.seq ⟨[]⟩ 0), ⟨[]⟩⟩
noncomputable def s413 : Str := ⟨⟨[nat_lit 76, nat_lit 105, nat_lit 109, nat_lit 105, nat_lit 116, nat_lit 115, nat_lit 46, nat_lit 108, nat_lit 101, nat_lit 97, nat_lit 115, nat_lit 116]⟩⟩
noncomputable def o55_301 (_ : Params) : Obj := ⟨.none, none, (.func ⟨s32, s413, a22, (.stmts (mAt 14 2)), c21, 0, [], .none, .none, .none, .none, none, .none, .none, 0⟩), ⟨[]⟩⟩
noncomputable def o56_302 (_ : Params) : Obj := ⟨(.type SL.s5856160107412720595x4), none, (.fields ⟨[(.str s32 273), (.str s413 274), (.str s402 275), (.int 36 0), (.int 1 0), (.int 0 0), (.int 0 0), (.int 3 0), (.ref 51), (.bool true), (.int 181 0), (.ref 52), .none, (.ref 53), (.ref 54), (.ref 55), (.int 277 0), (.int 36 0), (.str s402 278)]⟩), ⟨[]⟩⟩
noncomputable def o57_303 (_ : Params) : Obj := ⟨(.type SL.s7174869446012820540x8), none, (.func ⟨s32, s413, a22, (.stmts (mAt 14 2)), c21, 3, [], .none, .none, .none, (.str s8 204), none, (.ref 56), .none, 0⟩), ⟨[]⟩⟩
noncomputable def o58_304 (_ : Params) : Obj := ⟨(.type SL.s2766695959194262286x5), none, (.seq ⟨[(.str s26 280), (.str s28 281), (.str s5 282), (.str s25 283), (.str s23 284), (.str s27 285), (.str s29 286), (.str s30 287), (.str s24 288), (.str s22 289)]⟩ 0), ⟨[]⟩⟩
noncomputable def s414 : Str := ⟨⟨[nat_lit 95, nat_lit 95, nat_lit 100, nat_lit 105, nat_lit 99, nat_lit 116, nat_lit 95, nat_lit 95]⟩⟩
noncomputable def s415 : Str := ⟨⟨[nat_lit 95, nat_lit 95, nat_lit 119, nat_lit 101, nat_lit 97, nat_lit 107, nat_lit 114, nat_lit 101, nat_lit 102, nat_lit 95, nat_lit 95]⟩⟩
noncomputable def o59_305 (P : Params) : Obj := ⟨(.type SL.s14018661285674007319x4), none, (.dict ⟨[⟨(PySem.PyData.keyHash P s407), (.str s407 234), (.str s8 204)⟩, ⟨(PySem.PyData.keyHash P s409), (.str s409 238), (.int 19 237)⟩, ⟨(PySem.PyData.keyHash P s20), (.str s20 265), (.ref 43)⟩, ⟨(PySem.PyData.keyHash P s31), (.str s31 272), (.ref 50)⟩, ⟨(PySem.PyData.keyHash P s32), (.str s32 279), (.ref 57)⟩, ⟨(PySem.PyData.keyHash P s410), (.str s410 290), (.ref 58)⟩, ⟨(PySem.PyData.keyHash P s414), (.str s414 292), (.ref 61)⟩, ⟨(PySem.PyData.keyHash P s415), (.str s415 294), (.ref 62)⟩, ⟨(PySem.PyData.keyHash P s256), (.str s256 295), .none⟩]⟩ 4), ⟨[]⟩⟩
noncomputable def o60_306 (_ : Params) : Obj := ⟨(.type SL.s17162191345867700912x4), none, (.cls ⟨s19, [(.type SL.s2742458400755230247x6)], [(.ref 60), (.type SL.s2742458400755230247x6)], 59, s19, true, [], [], false, none, false⟩), ⟨[none, none, (some (.str s19 227)), (some (.str s19 235)), (some (.builtin SL.s11443829558043349243x14)), (some (.bool true))]⟩⟩
noncomputable def o61_307 (_ : Params) : Obj := ⟨(.type SL.s14755015743595814543x17), none, (.fields ⟨[(.str s414 291), (.ref 60), (.builtin SL.s6511155373996960695x17), (.builtin SL.s12411053484034534018x21)]⟩), ⟨[]⟩⟩
noncomputable def o62_308 (_ : Params) : Obj := ⟨(.type SL.s14755015743595814543x17), none, (.fields ⟨[(.str s415 293), (.ref 60), (.builtin SL.s10220274742760427390x26), .none]⟩), ⟨[]⟩⟩
noncomputable def o63_309 (_ : Params) : Obj := ⟨(.type SL.s4290257624100764138x5), none, (.fields ⟨[(.ref 60), (.ref 60), (.ref 60)]⟩), ⟨[]⟩⟩
noncomputable def o64_310 (_ : Params) : Obj := ⟨(.type SL.s11030030927630378310x26), none, (.fields ⟨[(.builtin SL.s4860613602091757760x24), (.ref 60)]⟩), ⟨[]⟩⟩
noncomputable def o65_311 (_ : Params) : Obj := ⟨(.type SL.s2766695959194262286x5), none, (.seq ⟨[(.type SL.s5946037652744460706x9)]⟩ 0), ⟨[]⟩⟩
noncomputable def o66_312 (_ : Params) : Obj := ⟨(.type SL.s11030030927630378310x26), none, (.fields ⟨[(.builtin SL.s10062305145149207511x16), (.type SL.s17162191345867700912x4)]⟩), ⟨[]⟩⟩
noncomputable def o67_313 (P : Params) : Obj := ⟨(.type SL.s14018661285674007319x4), none, (.dict ⟨[⟨(PySem.PyData.keyHash P s407), (.str s407 305), (.str s8 204)⟩, ⟨(PySem.PyData.keyHash P s408), (.str s408 307), (.str s33 306)⟩, ⟨(PySem.PyData.keyHash P s409), (.str s409 309), (.int 38 308)⟩, ⟨(PySem.PyData.keyHash P s20), (.str s20 317), (.ref 78)⟩, ⟨(PySem.PyData.keyHash P s410), (.str s410 321), (.ref 79)⟩]⟩ 5), ⟨[]⟩⟩
noncomputable def o68_314 (_ : Params) : Obj := ⟨(.type SL.s2766695959194262286x5), none, (.seq ⟨[]⟩ 0), ⟨[]⟩⟩
noncomputable def o69_315 (_ : Params) : Obj := ⟨.none, none, (.fields ⟨[(.int 40 0), (.int 4 0), (.ref 77)]⟩), ⟨[]⟩⟩
noncomputable def o70_316 (_ : Params) : Obj := ⟨(.type SL.s5856160107412720595x4), none, (.fields ⟨[(.str s33 300), (.str s33 301), (.str s402 302), (.int 38 0), (.int 0 0), (.int 0 0), (.int 0 0), (.int 0 0), (.ref 68), (.bool false), (.int 181 0), (.ref 69), .none, .none, .none, .none, (.int 303 0), (.int 38 0), (.str s402 304)]⟩), ⟨[]⟩⟩
noncomputable def o71_317 (_ : Params) : Obj := ⟨(.type SL.s658472552662922059x5), none, .plain, ⟨[(some (.ref 70)), (some (.ref 3)), (some (.ref 67)), none, (some (.str s8 204)), none, (some (.ref 0))]⟩⟩
noncomputable def o72_318 (_ : Params) : Obj := ⟨(.type SL.s2766695959194262286x5), none, (.seq ⟨[]⟩ 0), ⟨[]⟩⟩
noncomputable def o73_319 (_ : Params) : Obj := ⟨.none, none, (.fields ⟨[]⟩), ⟨[]⟩⟩
noncomputable def o74_320 (_ : Params) : Obj := ⟨(.type SL.s2766695959194262286x5), none, (.seq ⟨[(.str s21 313), (.str s35 314)]⟩ 0), ⟨[]⟩⟩
noncomputable def o75_321 (_ : Params) : Obj := ⟨(.type SL.s2766695959194262286x5), none, (.seq ⟨[]⟩ 0), ⟨[]⟩⟩
noncomputable def s416 : Str := ⟨⟨[nat_lit 76, nat_lit 117, nat_lit 97, nat_lit 69, nat_lit 114, nat_lit 114, nat_lit 111, nat_lit 114, nat_lit 46, nat_lit 95, nat_lit 95, nat_lit 105, nat_lit 110, nat_lit 105, nat_lit 116, nat_lit 95, nat_lit 95]⟩⟩
noncomputable def o76_322 (_ : Params) : Obj := ⟨.none, none, (.func ⟨s20, s416, a24, (.stmts (mAt 15 0)), c25, 0, [], .none, .none, .none, .none, none, .none, .none, 0⟩), ⟨[]⟩⟩
noncomputable def o77_323 (_ : Params) : Obj := ⟨(.type SL.s5856160107412720595x4), none, (.fields ⟨[(.str s20 310), (.str s416 311), (.str s402 312), (.int 40 0), (.int 2 0), (.int 0 0), (.int 0 0), (.int 3 0), (.ref 72), (.bool true), (.int 181 0), (.ref 73), .none, (.ref 74), (.ref 75), (.ref 76), (.int 315 0), (.int 40 0), (.str s402 316)]⟩), ⟨[]⟩⟩
noncomputable def o78_324 (_ : Params) : Obj := ⟨(.type SL.s7174869446012820540x8), none, (.func ⟨s20, s416, a24, (.stmts (mAt 15 0)), c25, 3, [], .none, .none, .none, (.str s8 204), none, (.ref 77), .none, 0⟩), ⟨[]⟩⟩
noncomputable def o79_325 (_ : Params) : Obj := ⟨(.type SL.s2766695959194262286x5), none, (.seq ⟨[(.str s36 318), (.str s37 319), (.str s35 320)]⟩ 0), ⟨[]⟩⟩
noncomputable def o80_326 (P : Params) : Obj := ⟨(.type SL.s14018661285674007319x4), none, (.dict ⟨[⟨(PySem.PyData.keyHash P s407), (.str s407 305), (.str s8 204)⟩, ⟨(PySem.PyData.keyHash P s409), (.str s409 309), (.int 38 308)⟩, ⟨(PySem.PyData.keyHash P s20), (.str s20 317), (.ref 78)⟩, ⟨(PySem.PyData.keyHash P s410), (.str s410 321), (.ref 79)⟩, ⟨(PySem.PyData.keyHash P s415), (.str s415 323), (.ref 82)⟩, ⟨(PySem.PyData.keyHash P s256), (.str s256 324), .none⟩]⟩ 3), ⟨[]⟩⟩
noncomputable def o81_327 (_ : Params) : Obj := ⟨(.type SL.s17162191345867700912x4), none, (.cls ⟨s33, [(.type SL.s5946037652744460706x9)], [(.ref 81), (.type SL.s5946037652744460706x9), (.type SL.s4278001404047624695x13), (.type SL.s2742458400755230247x6)], 80, s33, true, [], [], false, none, false⟩), ⟨[(some (.ref 65)), none, (some (.str s33 298)), (some (.str s33 306)), (some (.builtin SL.s5160863994218179198x17)), (some (.bool true))]⟩⟩
noncomputable def o82_328 (_ : Params) : Obj := ⟨(.type SL.s14755015743595814543x17), none, (.fields ⟨[(.str s415 322), (.ref 81), (.builtin SL.s10220274742760427390x26), .none]⟩), ⟨[]⟩⟩
noncomputable def o83_329 (_ : Params) : Obj := ⟨(.type SL.s4290257624100764138x5), none, (.fields ⟨[(.ref 81), (.ref 81), (.ref 81)]⟩), ⟨[]⟩⟩
noncomputable def o84_330 (_ : Params) : Obj := ⟨(.type SL.s11030030927630378310x26), none, (.fields ⟨[(.builtin SL.s4860613602091757760x24), (.ref 81)]⟩), ⟨[]⟩⟩
noncomputable def T1 (P : Params) : BT := (.node (o0_243 P) (.node (o1_244 P) (.node (o3_259 P) (.node (o7_250 P) (.node (o15_261 P) (.node (o31_277 P) (.node (o63_309 P) .nil .nil) .nil) (.node (o47_293 P) (.node (o79_325 P) .nil .nil) .nil)) (.node (o23_269 P) (.node (o39_285 P) (.node (o71_317 P) .nil .nil) .nil) (.node (o55_301 P) .nil .nil))) (.node (o11_254 P) (.node (o19_265 P) (.node (o35_281 P) (.node (o67_313 P) .nil .nil) .nil) (.node (o51_297 P) (.node (o83_329 P) .nil .nil) .nil)) (.node (o27_273 P) (.node (o43_289 P) (.node (o75_321 P) .nil .nil) .nil) (.node (o59_305 P) .nil .nil)))) (.node (o5_248 P) (.node (o9_252 P) (.node (o17_263 P) (.node (o33_279 P) (.node (o65_311 P) .nil .nil) .nil) (.node (o49_295 P) (.node (o81_327 P) .nil .nil) .nil)) (.node (o25_271 P) (.node (o41_287 P) (.node (o73_319 P) .nil .nil) .nil) (.node (o57_303 P) .nil .nil))) (.node (o13_256 P) (.node (o21_267 P) (.node (o37_283 P) (.node (o69_315 P) .nil .nil) .nil) (.node (o53_299 P) .nil .nil)) (.node (o29_275 P) (.node (o45_291 P) (.node (o77_323 P) .nil .nil) .nil) (.node (o61_307 P) .nil .nil))))) (.node (o2_258 P) (.node (o4_247 P) (.node (o8_251 P) (.node (o16_262 P) (.node (o32_278 P) (.node (o64_310 P) .nil .nil) .nil) (.node (o48_294 P) (.node (o80_326 P) .nil .nil) .nil)) (.node (o24_270 P) (.node (o40_286 P) (.node (o72_318 P) .nil .nil) .nil) (.node (o56_302 P) .nil .nil))) (.node (o12_260 P) (.node (o20_266 P) (.node (o36_282 P) (.node (o68_314 P) .nil .nil) .nil) (.node (o52_298 P) (.node (o84_330 P) .nil .nil) .nil)) (.node (o28_274 P) (.node (o44_290 P) (.node (o76_322 P) .nil .nil) .nil) (.node (o60_306 P) .nil .nil)))) (.node (o6_249 P) (.node (o10_253 P) (.node (o18_264 P) (.node (o34_280 P) (.node (o66_312 P) .nil .nil) .nil) (.node (o50_296 P) (.node (o82_328 P) .nil .nil) .nil)) (.node (o26_272 P) (.node (o42_288 P) (.node (o74_320 P) .nil .nil) .nil) (.node (o58_304 P) .nil .nil))) (.node (o14_257 P) (.node (o22_268 P) (.node (o38_284 P) (.node (o70_316 P) .nil .nil) .nil) (.node (o54_300 P) .nil .nil)) (.node (o30_276 P) (.node (o46_292 P) (.node (o78_324 P) .nil .nil) .nil) (.node (o62_308 P) .nil .nil))))))
noncomputable def o3_331 (P : Params) : Obj := ⟨(.type SL.s14018661285674007319x4), none, (.dict ⟨[⟨(PySem.PyData.keyHash P s2), (.str s2 165), (.str s8 204)⟩, ⟨(PySem.PyData.keyHash P s256), (.str s256 166), .none⟩, ⟨(PySem.PyData.keyHash P s257), (.str s257 167), .none⟩, ⟨(PySem.PyData.keyHash P s258), (.str s258 168), (.builtin SL.s7097527257260152453x26)⟩, ⟨(PySem.PyData.keyHash P s259), (.str s259 169), .none⟩, ⟨(PySem.PyData.keyHash P s399), (.str s399 170), (.ref 6)⟩, ⟨(PySem.PyData.keyHash P s400), (.str s400 171), (.ref 4)⟩, ⟨(PySem.PyData.keyHash P s401), (.str s401 173), (.str s402 172)⟩, ⟨(PySem.PyData.keyHash P s403), (.str s403 174), .none⟩, ⟨(PySem.PyData.keyHash P s0), (.str s0 193), (.ref 21)⟩, ⟨(PySem.PyData.keyHash P s4), (.str s4 203), (.ref 28)⟩, ⟨(PySem.PyData.keyHash P s9), (.str s9 208), (.int (-1) 207)⟩, ⟨(PySem.PyData.keyHash P s10), (.str s10 210), (.int 0 209)⟩, ⟨(PySem.PyData.keyHash P s11), (.str s11 212), (.int 1 211)⟩, ⟨(PySem.PyData.keyHash P s12), (.str s12 214), (.int 2 213)⟩, ⟨(PySem.PyData.keyHash P s13), (.str s13 216), (.int 3 215)⟩, ⟨(PySem.PyData.keyHash P s14), (.str s14 218), (.int 4 217)⟩, ⟨(PySem.PyData.keyHash P s15), (.str s15 220), (.int 5 219)⟩, ⟨(PySem.PyData.keyHash P s16), (.str s16 222), (.int 8 221)⟩, ⟨(PySem.PyData.keyHash P s17), (.str s17 224), (.int 10 223)⟩, ⟨(PySem.PyData.keyHash P s18), (.str s18 226), (.int 4294967295 225)⟩, ⟨(PySem.PyData.keyHash P s19), (.str s19 297), (.ref 60)⟩, ⟨(PySem.PyData.keyHash P s33), (.str s33 328), (.ref 81)⟩, ⟨(PySem.PyData.keyHash P s38), (.str s38 361), (.ref 101)⟩, ⟨(PySem.PyData.keyHash P s43), (.str s43 390), (.ref 122)⟩, ⟨(PySem.PyData.keyHash P s44), (.str s44 397), (.ref 133)⟩, ⟨(PySem.PyData.keyHash P s48), (.str s48 404), (.ref 140)⟩, ⟨(PySem.PyData.keyHash P s50), (.str s50 411), (.ref 147)⟩, ⟨(PySem.PyData.keyHash P s51), (.str s51 420), (.ref 154)⟩, ⟨(PySem.PyData.keyHash P s55), (.str s55 430), (.ref 161)⟩]⟩ 30), ⟨[]⟩⟩
noncomputable def o12_332 (_ : Params) : Obj := ⟨.none, none, (.fields ⟨[(.int 1 0), (.int 0 0), (.ref 20), (.int 5 0), (.int 0 0), (.ref 27), (.int 19 0), (.int 0 0), (.ref 34), (.int 38 0), (.int 0 0), (.ref 70), (.int 44 0), (.int 0 0), (.ref 90), (.int 51 0), (.int 0 0), (.ref 111), (.int 55 0), (.int 0 0), (.ref 132), (.int 57 0), (.int 0 0), (.ref 139), (.int 71 0), (.int 0 0), (.ref 146), (.int 73 0), (.int 0 0), (.ref 153), (.int 82 0), (.int 0 0), (.ref 160)]⟩), ⟨[]⟩⟩
noncomputable def o85_333 (_ : Params) : Obj := ⟨(.type SL.s2766695959194262286x5), none, (.seq ⟨[]⟩ 0), ⟨[]⟩⟩
noncomputable def o86_334 (_ : Params) : Obj := ⟨(.type SL.s11030030927630378310x26), none, (.fields ⟨[(.builtin SL.s10062305145149207511x16), (.type SL.s17162191345867700912x4)]⟩), ⟨[]⟩⟩
noncomputable def o87_335 (P : Params) : Obj := ⟨(.type SL.s14018661285674007319x4), none, (.dict ⟨[⟨(PySem.PyData.keyHash P s407), (.str s407 336), (.str s8 204)⟩, ⟨(PySem.PyData.keyHash P s408), (.str s408 338), (.str s38 337)⟩, ⟨(PySem.PyData.keyHash P s409), (.str s409 340), (.int 44 339)⟩, ⟨(PySem.PyData.keyHash P s39), (.str s39 341), (.int (-1) 207)⟩, ⟨(PySem.PyData.keyHash P s20), (.str s20 350), (.ref 98)⟩, ⟨(PySem.PyData.keyHash P s410), (.str s410 354), (.ref 99)⟩]⟩ 6), ⟨[]⟩⟩
noncomputable def o88_336 (_ : Params) : Obj := ⟨(.type SL.s2766695959194262286x5), none, (.seq ⟨[]⟩ 0), ⟨[]⟩⟩
noncomputable def o89_337 (_ : Params) : Obj := ⟨.none, none, (.fields ⟨[(.int 47 0), (.int 4 0), (.ref 97)]⟩), ⟨[]⟩⟩
noncomputable def o90_338 (_ : Params) : Obj := ⟨(.type SL.s5856160107412720595x4), none, (.fields ⟨[(.str s38 331), (.str s38 332), (.str s402 333), (.int 44 0), (.int 0 0), (.int 0 0), (.int 0 0), (.int 0 0), (.ref 88), (.bool false), (.int 181 0), (.ref 89), .none, .none, .none, .none, (.int 334 0), (.int 44 0), (.str s402 335)]⟩), ⟨[]⟩⟩
noncomputable def o91_339 (_ : Params) : Obj := ⟨(.type SL.s658472552662922059x5), none, .plain, ⟨[(some (.ref 90)), (some (.ref 3)), (some (.ref 87)), none, (some (.str s8 204)), none, (some (.ref 0))]⟩⟩
noncomputable def o92_340 (_ : Params) : Obj := ⟨(.type SL.s2766695959194262286x5), none, (.seq ⟨[]⟩ 0), ⟨[]⟩⟩
noncomputable def o93_341 (_ : Params) : Obj := ⟨.none, none, (.fields ⟨[]⟩), ⟨[]⟩⟩
noncomputable def o94_342 (_ : Params) : Obj := ⟨(.type SL.s2766695959194262286x5), none, (.seq ⟨[(.str s21 345), (.str s40 346), (.str s41 347)]⟩ 0), ⟨[]⟩⟩
noncomputable def o95_343 (_ : Params) : Obj := ⟨(.type SL.s2766695959194262286x5), none, (.seq ⟨[]⟩ 0), ⟨[]⟩⟩
noncomputable def s417 : Str := ⟨⟨[nat_lit 72, nat_lit 101, nat_lit 97, nat_lit 112, nat_lit 79, nat_lit 98, nat_lit 106, nat_lit 101, nat_lit 99, nat_lit 116, nat_lit 46, nat_lit 95, nat_lit 95, nat_lit 105, nat_lit 110, nat_lit 105, nat_lit 116, nat_lit 95, nat_lit 95]⟩⟩
noncomputable def o96_344 (_ : Params) : Obj := ⟨.none, none, (.func ⟨s20, s417, a27, (.stmts (mAt 16 1)), c28, 0, [], .none, .none, .none, .none, none, .none, .none, 0⟩), ⟨[]⟩⟩
noncomputable def o97_345 (_ : Params) : Obj := ⟨(.type SL.s5856160107412720595x4), none, (.fields ⟨[(.str s20 342), (.str s417 343), (.str s402 344), (.int 47 0), (.int 3 0), (.int 0 0), (.int 0 0), (.int 3 0), (.ref 92), (.bool true), (.int 181 0), (.ref 93), .none, (.ref 94), (.ref 95), (.ref 96), (.int 348 0), (.int 47 0), (.str s402 349)]⟩), ⟨[]⟩⟩
noncomputable def o98_346 (_ : Params) : Obj := ⟨(.type SL.s7174869446012820540x8), none, (.func ⟨s20, s417, a27, (.stmts (mAt 16 1)), c28, 3, [], .none, .none, .none, (.str s8 204), none, (.ref 97), .none, 0⟩), ⟨[]⟩⟩
noncomputable def o99_347 (_ : Params) : Obj := ⟨(.type SL.s2766695959194262286x5), none, (.seq ⟨[(.str s42 351), (.str s40 352), (.str s41 353)]⟩ 0), ⟨[]⟩⟩
noncomputable def o100_348 (P : Params) : Obj := ⟨(.type SL.s14018661285674007319x4), none, (.dict ⟨[⟨(PySem.PyData.keyHash P s407), (.str s407 336), (.str s8 204)⟩, ⟨(PySem.PyData.keyHash P s409), (.str s409 340), (.int 44 339)⟩, ⟨(PySem.PyData.keyHash P s39), (.str s39 341), (.int (-1) 207)⟩, ⟨(PySem.PyData.keyHash P s20), (.str s20 350), (.ref 98)⟩, ⟨(PySem.PyData.keyHash P s410), (.str s410 354), (.ref 99)⟩, ⟨(PySem.PyData.keyHash P s414), (.str s414 356), (.ref 102)⟩, ⟨(PySem.PyData.keyHash P s415), (.str s415 358), (.ref 103)⟩, ⟨(PySem.PyData.keyHash P s256), (.str s256 359), .none⟩]⟩ 4), ⟨[]⟩⟩
noncomputable def o101_349 (_ : Params) : Obj := ⟨(.type SL.s17162191345867700912x4), none, (.cls ⟨s38, [(.type SL.s2742458400755230247x6)], [(.ref 101), (.type SL.s2742458400755230247x6)], 100, s38, true, [], [], false, none, false⟩), ⟨[none, none, (some (.str s38 329)), (some (.str s38 337)), (some (.builtin SL.s11443829558043349243x14)), (some (.bool true))]⟩⟩
noncomputable def o102_350 (_ : Params) : Obj := ⟨(.type SL.s14755015743595814543x17), none, (.fields ⟨[(.str s414 355), (.ref 101), (.builtin SL.s6511155373996960695x17), (.builtin SL.s12411053484034534018x21)]⟩), ⟨[]⟩⟩
noncomputable def o103_351 (_ : Params) : Obj := ⟨(.type SL.s14755015743595814543x17), none, (.fields ⟨[(.str s415 357), (.ref 101), (.builtin SL.s10220274742760427390x26), .none]⟩), ⟨[]⟩⟩
noncomputable def o104_352 (_ : Params) : Obj := ⟨(.type SL.s4290257624100764138x5), none, (.fields ⟨[(.ref 101), (.ref 101), (.ref 101)]⟩), ⟨[]⟩⟩
noncomputable def o105_353 (_ : Params) : Obj := ⟨(.type SL.s11030030927630378310x26), none, (.fields ⟨[(.builtin SL.s4860613602091757760x24), (.ref 101)]⟩), ⟨[]⟩⟩
noncomputable def o106_354 (_ : Params) : Obj := ⟨(.type SL.s2766695959194262286x5), none, (.seq ⟨[]⟩ 0), ⟨[]⟩⟩
noncomputable def o107_355 (_ : Params) : Obj := ⟨(.type SL.s11030030927630378310x26), none, (.fields ⟨[(.builtin SL.s10062305145149207511x16), (.type SL.s17162191345867700912x4)]⟩), ⟨[]⟩⟩
noncomputable def o108_356 (P : Params) : Obj := ⟨(.type SL.s14018661285674007319x4), none, (.dict ⟨[⟨(PySem.PyData.keyHash P s407), (.str s407 369), (.str s8 204)⟩, ⟨(PySem.PyData.keyHash P s408), (.str s408 371), (.str s43 370)⟩, ⟨(PySem.PyData.keyHash P s409), (.str s409 373), (.int 51 372)⟩, ⟨(PySem.PyData.keyHash P s20), (.str s20 381), (.ref 119)⟩, ⟨(PySem.PyData.keyHash P s410), (.str s410 383), (.ref 120)⟩]⟩ 5), ⟨[]⟩⟩
noncomputable def o109_357 (_ : Params) : Obj := ⟨(.type SL.s2766695959194262286x5), none, (.seq ⟨[]⟩ 0), ⟨[]⟩⟩
noncomputable def o110_358 (_ : Params) : Obj := ⟨.none, none, (.fields ⟨[(.int 53 0), (.int 4 0), (.ref 118)]⟩), ⟨[]⟩⟩
noncomputable def o111_359 (_ : Params) : Obj := ⟨(.type SL.s5856160107412720595x4), none, (.fields ⟨[(.str s43 364), (.str s43 365), (.str s402 366), (.int 51 0), (.int 0 0), (.int 0 0), (.int 0 0), (.int 0 0), (.ref 109), (.bool false), (.int 181 0), (.ref 110), .none, .none, .none, .none, (.int 367 0), (.int 51 0), (.str s402 368)]⟩), ⟨[]⟩⟩
noncomputable def o112_360 (_ : Params) : Obj := ⟨(.type SL.s658472552662922059x5), none, .plain, ⟨[(some (.ref 111)), (some (.ref 3)), (some (.ref 108)), none, (some (.str s8 204)), none, (some (.ref 0))]⟩⟩
noncomputable def o113_361 (_ : Params) : Obj := ⟨(.type SL.s2766695959194262286x5), none, (.seq ⟨[]⟩ 0), ⟨[]⟩⟩
noncomputable def o114_362 (_ : Params) : Obj := ⟨.none, none, (.fields ⟨[]⟩), ⟨[]⟩⟩
noncomputable def o115_363 (_ : Params) : Obj := ⟨(.type SL.s2766695959194262286x5), none, (.seq ⟨[(.str s21 377), (.str s40 378)]⟩ 0), ⟨[]⟩⟩
noncomputable def o116_364 (_ : Params) : Obj := ⟨(.type SL.s2766695959194262286x5), none, (.seq ⟨[]⟩ 0), ⟨[]⟩⟩
noncomputable def s418 : Str := ⟨⟨[nat_lit 76, nat_lit 105, nat_lit 103, nat_lit 104, nat_lit 116, nat_lit 86, nat_lit 97, nat_lit 108, nat_lit 117, nat_lit 101, nat_lit 46, nat_lit 95, nat_lit 95, nat_lit 105, nat_lit 110, nat_lit 105, nat_lit 116, nat_lit 95, nat_lit 95]⟩⟩
noncomputable def o117_365 (_ : Params) : Obj := ⟨.none, none, (.func ⟨s20, s418, a30, (.stmts (mAt 17 0)), c31, 0, [], .none, .none, .none, .none, none, .none, .none, 0⟩), ⟨[]⟩⟩
noncomputable def o118_366 (_ : Params) : Obj := ⟨(.type SL.s5856160107412720595x4), none, (.fields ⟨[(.str s20 374), (.str s418 375), (.str s402 376), (.int 53 0), (.int 2 0), (.int 0 0), (.int 0 0), (.int 3 0), (.ref 113), (.bool true), (.int 181 0), (.ref 114), .none, (.ref 115), (.ref 116), (.ref 117), (.int 379 0), (.int 53 0), (.str s402 380)]⟩), ⟨[]⟩⟩
noncomputable def o119_367 (_ : Params) : Obj := ⟨(.type SL.s7174869446012820540x8), none, (.func ⟨s20, s418, a30, (.stmts (mAt 17 0)), c31, 3, [], .none, .none, .none, (.str s8 204), none, (.ref 118), .none, 0⟩), ⟨[]⟩⟩
noncomputable def o120_368 (_ : Params) : Obj := ⟨(.type SL.s2766695959194262286x5), none, (.seq ⟨[(.str s40 382)]⟩ 0), ⟨[]⟩⟩
noncomputable def o121_369 (P : Params) : Obj := ⟨(.type SL.s14018661285674007319x4), none, (.dict ⟨[⟨(PySem.PyData.keyHash P s407), (.str s407 369), (.str s8 204)⟩, ⟨(PySem.PyData.keyHash P s409), (.str s409 373), (.int 51 372)⟩, ⟨(PySem.PyData.keyHash P s20), (.str s20 381), (.ref 119)⟩, ⟨(PySem.PyData.keyHash P s410), (.str s410 383), (.ref 120)⟩, ⟨(PySem.PyData.keyHash P s414), (.str s414 385), (.ref 123)⟩, ⟨(PySem.PyData.keyHash P s415), (.str s415 387), (.ref 124)⟩, ⟨(PySem.PyData.keyHash P s256), (.str s256 388), .none⟩]⟩ 4), ⟨[]⟩⟩
noncomputable def o122_370 (_ : Params) : Obj := ⟨(.type SL.s17162191345867700912x4), none, (.cls ⟨s43, [(.type SL.s2742458400755230247x6)], [(.ref 122), (.type SL.s2742458400755230247x6)], 121, s43, true, [], [], false, none, false⟩), ⟨[none, none, (some (.str s43 362)), (some (.str s43 370)), (some (.builtin SL.s11443829558043349243x14)), (some (.bool true))]⟩⟩
noncomputable def o123_371 (_ : Params) : Obj := ⟨(.type SL.s14755015743595814543x17), none, (.fields ⟨[(.str s414 384), (.ref 122), (.builtin SL.s6511155373996960695x17), (.builtin SL.s12411053484034534018x21)]⟩), ⟨[]⟩⟩
noncomputable def o124_372 (_ : Params) : Obj := ⟨(.type SL.s14755015743595814543x17), none, (.fields ⟨[(.str s415 386), (.ref 122), (.builtin SL.s10220274742760427390x26), .none]⟩), ⟨[]⟩⟩
noncomputable def o125_373 (_ : Params) : Obj := ⟨(.type SL.s4290257624100764138x5), none, (.fields ⟨[(.ref 122), (.ref 122), (.ref 122)]⟩), ⟨[]⟩⟩
noncomputable def o126_374 (_ : Params) : Obj := ⟨(.type SL.s11030030927630378310x26), none, (.fields ⟨[(.builtin SL.s4860613602091757760x24), (.ref 122)]⟩), ⟨[]⟩⟩
noncomputable def o127_375 (_ : Params) : Obj := ⟨(.type SL.s2766695959194262286x5), none, (.seq ⟨[]⟩ 0), ⟨[]⟩⟩
noncomputable def o128_376 (_ : Params) : Obj := ⟨.none, none, (.fields ⟨[]⟩), ⟨[]⟩⟩
noncomputable def o129_377 (_ : Params) : Obj := ⟨(.type SL.s2766695959194262286x5), none, (.seq ⟨[(.str s35 394)]⟩ 0), ⟨[]⟩⟩
noncomputable def o130_378 (_ : Params) : Obj := ⟨(.type SL.s2766695959194262286x5), none, (.seq ⟨[]⟩ 0), ⟨[]⟩⟩
noncomputable def o131_379 (_ : Params) : Obj := ⟨.none, none, (.func ⟨s44, s44, a33, (.stmts (bAt 18)), c34, 0, [], .none, .none, .none, .none, none, .none, .none, 0⟩), ⟨[]⟩⟩
noncomputable def o132_380 (_ : Params) : Obj := ⟨(.type SL.s5856160107412720595x4), none, (.fields ⟨[(.str s44 391), (.str s44 392), (.str s402 393), (.int 55 0), (.int 1 0), (.int 0 0), (.int 0 0), (.int 3 0), (.ref 127), (.bool true), (.int 181 0), (.ref 128), .none, (.ref 129), (.ref 130), (.ref 131), (.int 395 0), (.int 55 0), (.str s402 396)]⟩), ⟨[]⟩⟩
noncomputable def o133_381 (_ : Params) : Obj := ⟨(.type SL.s7174869446012820540x8), none, (.func ⟨s44, s44, a33, (.stmts (bAt 18)), c34, 3, [], .none, .none, .none, (.str s8 204), none, (.ref 132), .none, 0⟩), ⟨[]⟩⟩
noncomputable def o134_382 (_ : Params) : Obj := ⟨(.type SL.s2766695959194262286x5), none, (.seq ⟨[]⟩ 0), ⟨[]⟩⟩
noncomputable def o135_383 (_ : Params) : Obj := ⟨.none, none, (.fields ⟨[]⟩), ⟨[]⟩⟩
noncomputable def o136_384 (_ : Params) : Obj := ⟨(.type SL.s2766695959194262286x5), none, (.seq ⟨[(.str s35 401)]⟩ 0), ⟨[]⟩⟩
noncomputable def o137_385 (_ : Params) : Obj := ⟨(.type SL.s2766695959194262286x5), none, (.seq ⟨[]⟩ 0), ⟨[]⟩⟩
noncomputable def o138_386 (_ : Params) : Obj := ⟨.none, none, (.func ⟨s48, s48, a36, (.stmts (bAt 19)), c37, 0, [], .none, .none, .none, .none, none, .none, .none, 0⟩), ⟨[]⟩⟩
noncomputable def o139_387 (_ : Params) : Obj := ⟨(.type SL.s5856160107412720595x4), none, (.fields ⟨[(.str s48 398), (.str s48 399), (.str s402 400), (.int 57 0), (.int 1 0), (.int 0 0), (.int 0 0), (.int 3 0), (.ref 134), (.bool true), (.int 181 0), (.ref 135), .none, (.ref 136), (.ref 137), (.ref 138), (.int 402 0), (.int 57 0), (.str s402 403)]⟩), ⟨[]⟩⟩
noncomputable def o140_388 (_ : Params) : Obj := ⟨(.type SL.s7174869446012820540x8), none, (.func ⟨s48, s48, a36, (.stmts (bAt 19)), c37, 3, [], .none, .none, .none, (.str s8 204), none, (.ref 139), .none, 0⟩), ⟨[]⟩⟩
noncomputable def o141_389 (_ : Params) : Obj := ⟨(.type SL.s2766695959194262286x5), none, (.seq ⟨[]⟩ 0), ⟨[]⟩⟩
noncomputable def o142_390 (_ : Params) : Obj := ⟨.none, none, (.fields ⟨[]⟩), ⟨[]⟩⟩
noncomputable def o143_391 (_ : Params) : Obj := ⟨(.type SL.s2766695959194262286x5), none, (.seq ⟨[(.str s35 408)]⟩ 0), ⟨[]⟩⟩
noncomputable def o144_392 (_ : Params) : Obj := ⟨(.type SL.s2766695959194262286x5), none, (.seq ⟨[]⟩ 0), ⟨[]⟩⟩
noncomputable def o145_393 (_ : Params) : Obj := ⟨.none, none, (.func ⟨s50, s50, a39, (.stmts (bAt 20)), c40, 0, [], .none, .none, .none, .none, none, .none, .none, 0⟩), ⟨[]⟩⟩
noncomputable def o146_394 (_ : Params) : Obj := ⟨(.type SL.s5856160107412720595x4), none, (.fields ⟨[(.str s50 405), (.str s50 406), (.str s402 407), (.int 71 0), (.int 1 0), (.int 0 0), (.int 0 0), (.int 3 0), (.ref 141), (.bool true), (.int 181 0), (.ref 142), .none, (.ref 143), (.ref 144), (.ref 145), (.int 409 0), (.int 71 0), (.str s402 410)]⟩), ⟨[]⟩⟩
noncomputable def o147_395 (_ : Params) : Obj := ⟨(.type SL.s7174869446012820540x8), none, (.func ⟨s50, s50, a39, (.stmts (bAt 20)), c40, 3, [], .none, .none, .none, (.str s8 204), none, (.ref 146), .none, 0⟩), ⟨[]⟩⟩
noncomputable def o148_396 (_ : Params) : Obj := ⟨(.type SL.s2766695959194262286x5), none, (.seq ⟨[]⟩ 0), ⟨[]⟩⟩
noncomputable def o149_397 (_ : Params) : Obj := ⟨.none, none, (.fields ⟨[]⟩), ⟨[]⟩⟩
noncomputable def o150_398 (_ : Params) : Obj := ⟨(.type SL.s2766695959194262286x5), none, (.seq ⟨[(.str s52 415), (.str s53 416), (.str s54 417)]⟩ 0), ⟨[]⟩⟩
noncomputable def o151_399 (_ : Params) : Obj := ⟨(.type SL.s2766695959194262286x5), none, (.seq ⟨[]⟩ 0), ⟨[]⟩⟩
noncomputable def o152_400 (_ : Params) : Obj := ⟨.none, none, (.func ⟨s51, s51, a42, (.stmts (bAt 21)), c43, 0, [], .none, .none, .none, .none, none, .none, .none, 0⟩), ⟨[]⟩⟩
noncomputable def o153_401 (_ : Params) : Obj := ⟨(.type SL.s5856160107412720595x4), none, (.fields ⟨[(.str s51 412), (.str s51 413), (.str s402 414), (.int 73 0), (.int 2 0), (.int 0 0), (.int 0 0), (.int 3 0), (.ref 148), (.bool true), (.int 181 0), (.ref 149), .none, (.ref 150), (.ref 151), (.ref 152), (.int 418 0), (.int 73 0), (.str s402 419)]⟩), ⟨[]⟩⟩
noncomputable def o154_402 (_ : Params) : Obj := ⟨(.type SL.s7174869446012820540x8), none, (.func ⟨s51, s51, a42, (.stmts (bAt 21)), c43, 3, [], .none, .none, .none, (.str s8 204), none, (.ref 153), .none, 0⟩), ⟨[]⟩⟩
noncomputable def o155_403 (_ : Params) : Obj := ⟨(.type SL.s2766695959194262286x5), none, (.seq ⟨[]⟩ 0), ⟨[]⟩⟩
noncomputable def o156_404 (_ : Params) : Obj := ⟨.none, none, (.fields ⟨[]⟩), ⟨[]⟩⟩
noncomputable def o157_405 (_ : Params) : Obj := ⟨(.type SL.s2766695959194262286x5), none, (.seq ⟨[(.str s30 424), (.str s56 425), (.str s57 426), (.str s58 427)]⟩ 0), ⟨[]⟩⟩
noncomputable def o158_406 (_ : Params) : Obj := ⟨(.type SL.s2766695959194262286x5), none, (.seq ⟨[]⟩ 0), ⟨[]⟩⟩
noncomputable def o159_407 (_ : Params) : Obj := ⟨.none, none, (.func ⟨s55, s55, a45, (.stmts (bAt 22)), c46, 0, [], .none, .none, .none, .none, none, .none, .none, 0⟩), ⟨[]⟩⟩
noncomputable def o160_408 (_ : Params) : Obj := ⟨(.type SL.s5856160107412720595x4), none, (.fields ⟨[(.str s55 421), (.str s55 422), (.str s402 423), (.int 82 0), (.int 1 0), (.int 0 0), (.int 0 0), (.int 3 0), (.ref 155), (.bool true), (.int 181 0), (.ref 156), .none, (.ref 157), (.ref 158), (.ref 159), (.int 428 0), (.int 82 0), (.str s402 429)]⟩), ⟨[]⟩⟩
noncomputable def o161_409 (_ : Params) : Obj := ⟨(.type SL.s7174869446012820540x8), none, (.func ⟨s55, s55, a45, (.stmts (bAt 22)), c46, 3, [], .none, .none, .none, (.str s8 204), none, (.ref 160), .none, 0⟩), ⟨[]⟩⟩
noncomputable def T2 (P : Params) : BT := (.node (o0_243 P) (.node (o1_244 P) (.node (o3_331 P) (.node (o7_250 P) (.node (o15_261 P) (.node (o31_277 P) (.node (o63_309 P) (.node (o127_375 P) .nil .nil) .nil) (.node (o95_343 P) (.node (o159_407 P) .nil .nil) .nil)) (.node (o47_293 P) (.node (o79_325 P) (.node (o143_391 P) .nil .nil) .nil) (.node (o111_359 P) .nil .nil))) (.node (o23_269 P) (.node (o39_285 P) (.node (o71_317 P) (.node (o135_383 P) .nil .nil) .nil) (.node (o103_351 P) .nil .nil)) (.node (o55_301 P) (.node (o87_335 P) (.node (o151_399 P) .nil .nil) .nil) (.node (o119_367 P) .nil .nil)))) (.node (o11_254 P) (.node (o19_265 P) (.node (o35_281 P) (.node (o67_313 P) (.node (o131_379 P) .nil .nil) .nil) (.node (o99_347 P) .nil .nil)) (.node (o51_297 P) (.node (o83_329 P) (.node (o147_395 P) .nil .nil) .nil) (.node (o115_363 P) .nil .nil))) (.node (o27_273 P) (.node (o43_289 P) (.node (o75_321 P) (.node (o139_387 P) .nil .nil) .nil) (.node (o107_355 P) .nil .nil)) (.node (o59_305 P) (.node (o91_339 P) (.node (o155_403 P) .nil .nil) .nil) (.node (o123_371 P) .nil .nil))))) (.node (o5_248 P) (.node (o9_252 P) (.node (o17_263 P) (.node (o33_279 P) (.node (o65_311 P) (.node (o129_377 P) .nil .nil) .nil) (.node (o97_345 P) (.node (o161_409 P) .nil .nil) .nil)) (.node (o49_295 P) (.node (o81_327 P) (.node (o145_393 P) .nil .nil) .nil) (.node (o113_361 P) .nil .nil))) (.node (o25_271 P) (.node (o41_287 P) (.node (o73_319 P) (.node (o137_385 P) .nil .nil) .nil) (.node (o105_353 P) .nil .nil)) (.node (o57_303 P) (.node (o89_337 P) (.node (o153_401 P) .nil .nil) .nil) (.node (o121_369 P) .nil .nil)))) (.node (o13_256 P) (.node (o21_267 P) (.node (o37_283 P) (.node (o69_315 P) (.node (o133_381 P) .nil .nil) .nil) (.node (o101_349 P) .nil .nil)) (.node (o53_299 P) (.node (o85_333 P) (.node (o149_397 P) .nil .nil) .nil) (.node (o117_365 P) .nil .nil))) (.node (o29_275 P) (.node (o45_291 P) (.node (o77_323 P) (.node (o141_389 P) .nil .nil) .nil) (.node (o109_357 P) .nil .nil)) (.node (o61_307 P) (.node (o93_341 P) (.node (o157_405 P) .nil .nil) .nil) (.node (o125_373 P) .nil .nil)))))) (.node (o2_258 P) (.node (o4_247 P) (.node (o8_251 P) (.node (o16_262 P) (.node (o32_278 P) (.node (o64_310 P) (.node (o128_376 P) .nil .nil) .nil) (.node (o96_344 P) (.node (o160_408 P) .nil .nil) .nil)) (.node (o48_294 P) (.node (o80_326 P) (.node (o144_392 P) .nil .nil) .nil) (.node (o112_360 P) .nil .nil))) (.node (o24_270 P) (.node (o40_286 P) (.node (o72_318 P) (.node (o136_384 P) .nil .nil) .nil) (.node (o104_352 P) .nil .nil)) (.node (o56_302 P) (.node (o88_336 P) (.node (o152_400 P) .nil .nil) .nil) (.node (o120_368 P) .nil .nil)))) (.node (o12_332 P) (.node (o20_266 P) (.node (o36_282 P) (.node (o68_314 P) (.node (o132_380 P) .nil .nil) .nil) (.node (o100_348 P) .nil .nil)) (.node (o52_298 P) (.node (o84_330 P) (.node (o148_396 P) .nil .nil) .nil) (.node (o116_364 P) .nil .nil))) (.node (o28_274 P) (.node (o44_290 P) (.node (o76_322 P) (.node (o140_388 P) .nil .nil) .nil) (.node (o108_356 P) .nil .nil)) (.node (o60_306 P) (.node (o92_340 P) (.node (o156_404 P) .nil .nil) .nil) (.node (o124_372 P) .nil .nil))))) (.node (o6_249 P) (.node (o10_253 P) (.node (o18_264 P) (.node (o34_280 P) (.node (o66_312 P) (.node (o130_378 P) .nil .nil) .nil) (.node (o98_346 P) .nil .nil)) (.node (o50_296 P) (.node (o82_328 P) (.node (o146_394 P) .nil .nil) .nil) (.node (o114_362 P) .nil .nil))) (.node (o26_272 P) (.node (o42_288 P) (.node (o74_320 P) (.node (o138_386 P) .nil .nil) .nil) (.node (o106_354 P) .nil .nil)) (.node (o58_304 P) (.node (o90_338 P) (.node (o154_402 P) .nil .nil) .nil) (.node (o122_370 P) .nil .nil)))) (.node (o14_257 P) (.node (o22_268 P) (.node (o38_284 P) (.node (o70_316 P) (.node (o134_382 P) .nil .nil) .nil) (.node (o102_350 P) .nil .nil)) (.node (o54_300 P) (.node (o86_334 P) (.node (o150_398 P) .nil .nil) .nil) (.node (o118_366 P) .nil .nil))) (.node (o30_276 P) (.node (o46_292 P) (.node (o78_324 P) (.node (o142_390 P) .nil .nil) .nil) (.node (o110_358 P) .nil .nil)) (.node (o62_308 P) (.node (o94_342 P) (.node (o158_406 P) .nil .nil) .nil) (.node (o126_374 P) .nil .nil)))))))
noncomputable def o3_410 (P : Params) : Obj := ⟨(.type SL.s14018661285674007319x4), none, (.dict ⟨[⟨(PySem.PyData.keyHash P s2), (.str s2 165), (.str s62 446)⟩, ⟨(PySem.PyData.keyHash P s256), (.str s256 166), .none⟩, ⟨(PySem.PyData.keyHash P s257), (.str s257 167), .none⟩, ⟨(PySem.PyData.keyHash P s258), (.str s258 168), (.builtin SL.s7097527257260152453x26)⟩, ⟨(PySem.PyData.keyHash P s259), (.str s259 169), .none⟩, ⟨(PySem.PyData.keyHash P s399), (.str s399 170), (.ref 6)⟩, ⟨(PySem.PyData.keyHash P s400), (.str s400 171), (.ref 4)⟩, ⟨(PySem.PyData.keyHash P s401), (.str s401 173), (.str s402 172)⟩, ⟨(PySem.PyData.keyHash P s403), (.str s403 174), .none⟩, ⟨(PySem.PyData.keyHash P s0), (.str s0 193), (.ref 21)⟩, ⟨(PySem.PyData.keyHash P s4), (.str s4 203), (.ref 28)⟩, ⟨(PySem.PyData.keyHash P s9), (.str s9 208), (.int (-1) 207)⟩, ⟨(PySem.PyData.keyHash P s10), (.str s10 210), (.int 0 209)⟩, ⟨(PySem.PyData.keyHash P s11), (.str s11 212), (.int 1 211)⟩, ⟨(PySem.PyData.keyHash P s12), (.str s12 214), (.int 2 213)⟩, ⟨(PySem.PyData.keyHash P s13), (.str s13 216), (.int 3 215)⟩, ⟨(PySem.PyData.keyHash P s14), (.str s14 218), (.int 4 217)⟩, ⟨(PySem.PyData.keyHash P s15), (.str s15 220), (.int 5 219)⟩, ⟨(PySem.PyData.keyHash P s16), (.str s16 222), (.int 8 221)⟩, ⟨(PySem.PyData.keyHash P s17), (.str s17 224), (.int 10 223)⟩, ⟨(PySem.PyData.keyHash P s18), (.str s18 226), (.int 4294967295 225)⟩, ⟨(PySem.PyData.keyHash P s19), (.str s19 297), (.ref 60)⟩, ⟨(PySem.PyData.keyHash P s33), (.str s33 328), (.ref 81)⟩, ⟨(PySem.PyData.keyHash P s38), (.str s38 361), (.ref 101)⟩, ⟨(PySem.PyData.keyHash P s43), (.str s43 390), (.ref 122)⟩, ⟨(PySem.PyData.keyHash P s44), (.str s44 397), (.ref 133)⟩, ⟨(PySem.PyData.keyHash P s48), (.str s48 404), (.ref 140)⟩, ⟨(PySem.PyData.keyHash P s50), (.str s50 411), (.ref 147)⟩, ⟨(PySem.PyData.keyHash P s51), (.str s51 420), (.ref 154)⟩, ⟨(PySem.PyData.keyHash P s55), (.str s55 430), (.ref 161)⟩, ⟨(PySem.PyData.keyHash P s59), (.str s59 438), (.ref 168)⟩, ⟨(PySem.PyData.keyHash P s61), (.str s61 445), (.ref 175)⟩, ⟨(PySem.PyData.keyHash P s63), (.str s63 449), (.int 4 448)⟩, ⟨(PySem.PyData.keyHash P s64), (.str s64 508), (.ref 221)⟩, ⟨(PySem.PyData.keyHash P s72), (.str s72 517), (.ref 230)⟩, ⟨(PySem.PyData.keyHash P s74), (.str s74 526), (.ref 237)⟩, ⟨(PySem.PyData.keyHash P s75), (.str s75 534), (.ref 244)⟩]⟩ 37), ⟨[]⟩⟩
noncomputable def o12_411 (_ : Params) : Obj := ⟨.none, none, (.fields ⟨[(.int 1 0), (.int 0 0), (.ref 20), (.int 5 0), (.int 0 0), (.ref 27), (.int 19 0), (.int 0 0), (.ref 34), (.int 38 0), (.int 0 0), (.ref 70), (.int 44 0), (.int 0 0), (.ref 90), (.int 51 0), (.int 0 0), (.ref 111), (.int 55 0), (.int 0 0), (.ref 132), (.int 57 0), (.int 0 0), (.ref 139), (.int 71 0), (.int 0 0), (.ref 146), (.int 73 0), (.int 0 0), (.ref 153), (.int 82 0), (.int 0 0), (.ref 160), (.int 89 0), (.int 0 0), (.ref 167), (.int 95 0), (.int 0 0), (.ref 174), (.int 99 0), (.int 0 0), (.ref 181), (.int 128 0), (.int 0 0), (.ref 229), (.int 133 0), (.int 0 0), (.ref 236), (.int 138 0), (.int 0 0), (.ref 243)]⟩), ⟨[]⟩⟩
noncomputable def o101_412 (_ : Params) : Obj := ⟨(.type SL.s17162191345867700912x4), none, (.cls ⟨s38, [(.type SL.s2742458400755230247x6)], [(.ref 101), (.type SL.s2742458400755230247x6)], 100, s38, true, [], [(.ref 221)], false, none, false⟩), ⟨[none, none, (some (.str s38 329)), (some (.str s38 337)), (some (.builtin SL.s11443829558043349243x14)), (some (.bool true))]⟩⟩
noncomputable def o162_413 (_ : Params) : Obj := ⟨(.type SL.s2766695959194262286x5), none, (.seq ⟨[]⟩ 0), ⟨[]⟩⟩
noncomputable def o163_414 (_ : Params) : Obj := ⟨.none, none, (.fields ⟨[]⟩), ⟨[]⟩⟩
noncomputable def o164_415 (_ : Params) : Obj := ⟨(.type SL.s2766695959194262286x5), none, (.seq ⟨[(.str s60 434), (.str s56 435)]⟩ 0), ⟨[]⟩⟩
noncomputable def o165_416 (_ : Params) : Obj := ⟨(.type SL.s2766695959194262286x5), none, (.seq ⟨[]⟩ 0), ⟨[]⟩⟩
noncomputable def o166_417 (_ : Params) : Obj := ⟨.none, none, (.func ⟨s59, s59, a48, (.stmts (bAt 23)), c49, 0, [], .none, .none, .none, .none, none, .none, .none, 0⟩), ⟨[]⟩⟩
noncomputable def o167_418 (_ : Params) : Obj := ⟨(.type SL.s5856160107412720595x4), none, (.fields ⟨[(.str s59 431), (.str s59 432), (.str s402 433), (.int 89 0), (.int 1 0), (.int 0 0), (.int 0 0), (.int 3 0), (.ref 162), (.bool true), (.int 181 0), (.ref 163), .none, (.ref 164), (.ref 165), (.ref 166), (.int 436 0), (.int 89 0), (.str s402 437)]⟩), ⟨[]⟩⟩
noncomputable def o168_419 (_ : Params) : Obj := ⟨(.type SL.s7174869446012820540x8), none, (.func ⟨s59, s59, a48, (.stmts (bAt 23)), c49, 3, [], .none, .none, .none, (.str s8 204), none, (.ref 167), .none, 0⟩), ⟨[]⟩⟩
noncomputable def o169_420 (_ : Params) : Obj := ⟨(.type SL.s2766695959194262286x5), none, (.seq ⟨[]⟩ 0), ⟨[]⟩⟩
noncomputable def o170_421 (_ : Params) : Obj := ⟨.none, none, (.fields ⟨[]⟩), ⟨[]⟩⟩
noncomputable def o171_422 (_ : Params) : Obj := ⟨(.type SL.s2766695959194262286x5), none, (.seq ⟨[(.str s60 442)]⟩ 0), ⟨[]⟩⟩
noncomputable def o172_423 (_ : Params) : Obj := ⟨(.type SL.s2766695959194262286x5), none, (.seq ⟨[]⟩ 0), ⟨[]⟩⟩
noncomputable def o173_424 (_ : Params) : Obj := ⟨.none, none, (.func ⟨s61, s61, a51, (.stmts (bAt 24)), c52, 0, [], .none, .none, .none, .none, none, .none, .none, 0⟩), ⟨[]⟩⟩
noncomputable def o174_425 (_ : Params) : Obj := ⟨(.type SL.s5856160107412720595x4), none, (.fields ⟨[(.str s61 439), (.str s61 440), (.str s402 441), (.int 95 0), (.int 1 0), (.int 0 0), (.int 0 0), (.int 3 0), (.ref 169), (.bool true), (.int 181 0), (.ref 170), .none, (.ref 171), (.ref 172), (.ref 173), (.int 443 0), (.int 95 0), (.str s402 444)]⟩), ⟨[]⟩⟩
noncomputable def o175_426 (_ : Params) : Obj := ⟨(.type SL.s7174869446012820540x8), none, (.func ⟨s61, s61, a51, (.stmts (bAt 24)), c52, 3, [], .none, .none, .none, (.str s8 204), none, (.ref 174), .none, 0⟩), ⟨[]⟩⟩
noncomputable def o176_427 (_ : Params) : Obj := ⟨(.type SL.s2766695959194262286x5), none, (.seq ⟨[(.ref 101)]⟩ 0), ⟨[]⟩⟩
noncomputable def o177_428 (_ : Params) : Obj := ⟨(.type SL.s11030030927630378310x26), none, (.fields ⟨[(.builtin SL.s10062305145149207511x16), (.type SL.s17162191345867700912x4)]⟩), ⟨[]⟩⟩
noncomputable def o178_429 (P : Params) : Obj := ⟨(.type SL.s14018661285674007319x4), none, (.dict ⟨[⟨(PySem.PyData.keyHash P s407), (.str s407 457), (.str s62 446)⟩, ⟨(PySem.PyData.keyHash P s408), (.str s408 459), (.str s64 458)⟩, ⟨(PySem.PyData.keyHash P s409), (.str s409 461), (.int 99 460)⟩, ⟨(PySem.PyData.keyHash P s39), (.str s39 462), (.int 10 223)⟩, ⟨(PySem.PyData.keyHash P s20), (.str s20 471), (.ref 189)⟩, ⟨(PySem.PyData.keyHash P s67), (.str s67 479), (.ref 197)⟩, ⟨(PySem.PyData.keyHash P s69), (.str s69 486), (.ref 204)⟩, ⟨(PySem.PyData.keyHash P s70), (.str s70 494), (.ref 211)⟩, ⟨(PySem.PyData.keyHash P s71), (.str s71 501), (.ref 218)⟩, ⟨(PySem.PyData.keyHash P s410), (.str s410 505), (.ref 219)⟩]⟩ 10), ⟨[]⟩⟩
noncomputable def o179_430 (_ : Params) : Obj := ⟨(.type SL.s2766695959194262286x5), none, (.seq ⟨[]⟩ 0), ⟨[]⟩⟩
noncomputable def o180_431 (_ : Params) : Obj := ⟨.none, none, (.fields ⟨[(.int 102 0), (.int 4 0), (.ref 188), (.int 109 0), (.int 4 0), (.ref 195), (.int 112 0), (.int 4 0), (.ref 203), (.int 117 0), (.int 4 0), (.ref 210), (.int 123 0), (.int 4 0), (.ref 217)]⟩), ⟨[]⟩⟩
noncomputable def o181_432 (_ : Params) : Obj := ⟨(.type SL.s5856160107412720595x4), none, (.fields ⟨[(.str s64 452), (.str s64 453), (.str s402 454), (.int 99 0), (.int 0 0), (.int 0 0), (.int 0 0), (.int 0 0), (.ref 179), (.bool false), (.int 181 0), (.ref 180), .none, .none, .none, .none, (.int 455 0), (.int 99 0), (.str s402 456)]⟩), ⟨[]⟩⟩
noncomputable def o182_433 (_ : Params) : Obj := ⟨(.type SL.s658472552662922059x5), none, .plain, ⟨[(some (.ref 181)), (some (.ref 3)), (some (.ref 178)), none, (some (.str s62 446)), none, (some (.ref 0))]⟩⟩
noncomputable def o183_434 (_ : Params) : Obj := ⟨(.type SL.s2766695959194262286x5), none, (.seq ⟨[]⟩ 0), ⟨[]⟩⟩
noncomputable def o184_435 (_ : Params) : Obj := ⟨.none, none, (.fields ⟨[]⟩), ⟨[]⟩⟩
noncomputable def o185_436 (_ : Params) : Obj := ⟨(.type SL.s2766695959194262286x5), none, (.seq ⟨[(.str s21 466), (.str s65 467), (.str s66 468)]⟩ 0), ⟨[]⟩⟩
noncomputable def o186_437 (_ : Params) : Obj := ⟨(.type SL.s2766695959194262286x5), none, (.seq ⟨[]⟩ 0), ⟨[]⟩⟩
noncomputable def s419 : Str := ⟨⟨[nat_lit 85, nat_lit 112, nat_lit 86, nat_lit 97, nat_lit 108, nat_lit 46, nat_lit 95, nat_lit 95, nat_lit 105, nat_lit 110, nat_lit 105, nat_lit 116, nat_lit 95, nat_lit 95]⟩⟩
noncomputable def o187_438 (_ : Params) : Obj := ⟨.none, none, (.func ⟨s20, s419, a56, (.stmts (mAt 27 1)), c57, 0, [], .none, .none, .none, .none, none, .none, .none, 0⟩), ⟨[]⟩⟩
noncomputable def o188_439 (_ : Params) : Obj := ⟨(.type SL.s5856160107412720595x4), none, (.fields ⟨[(.str s20 463), (.str s419 464), (.str s402 465), (.int 102 0), (.int 3 0), (.int 0 0), (.int 0 0), (.int 3 0), (.ref 183), (.bool true), (.int 181 0), (.ref 184), .none, (.ref 185), (.ref 186), (.ref 187), (.int 469 0), (.int 102 0), (.str s402 470)]⟩), ⟨[]⟩⟩
noncomputable def o189_440 (_ : Params) : Obj := ⟨(.type SL.s7174869446012820540x8), none, (.func ⟨s20, s419, a56, (.stmts (mAt 27 1)), c57, 3, [], .none, .none, .none, (.str s62 446), none, (.ref 188), .none, 0⟩), ⟨[]⟩⟩
noncomputable def o190_441 (_ : Params) : Obj := ⟨(.type SL.s2766695959194262286x5), none, (.seq ⟨[]⟩ 0), ⟨[]⟩⟩
noncomputable def o191_442 (_ : Params) : Obj := ⟨.none, none, (.fields ⟨[]⟩), ⟨[]⟩⟩
noncomputable def o192_443 (_ : Params) : Obj := ⟨(.type SL.s2766695959194262286x5), none, (.seq ⟨[(.str s21 475)]⟩ 0), ⟨[]⟩⟩
noncomputable def o193_444 (_ : Params) : Obj := ⟨(.type SL.s2766695959194262286x5), none, (.seq ⟨[]⟩ 0), ⟨[]⟩⟩
noncomputable def s420 : Str := ⟨⟨[nat_lit 85, nat_lit 112, nat_lit 86, nat_lit 97, nat_lit 108, nat_lit 46, nat_lit 105, nat_lit 115, nat_lit 95, nat_lit 111, nat_lit 112, nat_lit 101, nat_lit 110]⟩⟩
noncomputable def o194_445 (_ : Params) : Obj := ⟨.none, none, (.func ⟨s67, s420, a58, (.stmts (mAt 27 2)), c21, 0, [], .none, .none, .none, .none, none, .none, .none, 0⟩), ⟨[]⟩⟩
noncomputable def o195_446 (_ : Params) : Obj := ⟨(.type SL.s5856160107412720595x4), none, (.fields ⟨[(.str s67 472), (.str s420 473), (.str s402 474), (.int 108 0), (.int 1 0), (.int 0 0), (.int 0 0), (.int 3 0), (.ref 190), (.bool true), (.int 181 0), (.ref 191), .none, (.ref 192), (.ref 193), (.ref 194), (.int 476 0), (.int 108 0), (.str s402 477)]⟩), ⟨[]⟩⟩
noncomputable def o196_447 (_ : Params) : Obj := ⟨(.type SL.s7174869446012820540x8), none, (.func ⟨s67, s420, a58, (.stmts (mAt 27 2)), c21, 3, [], .none, .none, .none, (.str s62 446), none, (.ref 195), .none, 0⟩), ⟨[]⟩⟩
noncomputable def o197_448 (_ : Params) : Obj := ⟨(.type SL.s8101838861749082086x8), none, (.fields ⟨[(.ref 196), .none, .none, .none, (.str s67 479), (.bool false)]⟩), ⟨[]⟩⟩
noncomputable def o198_449 (_ : Params) : Obj := ⟨(.type SL.s2766695959194262286x5), none, (.seq ⟨[]⟩ 0), ⟨[]⟩⟩
noncomputable def o199_450 (_ : Params) : Obj := ⟨.none, none, (.fields ⟨[]⟩), ⟨[]⟩⟩
noncomputable def o200_451 (_ : Params) : Obj := ⟨(.type SL.s2766695959194262286x5), none, (.seq ⟨[(.str s21 483)]⟩ 0), ⟨[]⟩⟩
noncomputable def o201_452 (_ : Params) : Obj := ⟨(.type SL.s2766695959194262286x5), none, (.seq ⟨[]⟩ 0), ⟨[]⟩⟩
noncomputable def s421 : Str := ⟨⟨[nat_lit 85, nat_lit 112, nat_lit 86, nat_lit 97, nat_lit 108, nat_lit 46, nat_lit 103, nat_lit 101, nat_lit 116]⟩⟩
noncomputable def o202_453 (_ : Params) : Obj := ⟨.none, none, (.func ⟨s69, s421, a59, (.stmts (mAt 27 3)), c21, 0, [], .none, .none, .none, .none, none, .none, .none, 0⟩), ⟨[]⟩⟩
noncomputable def o203_454 (_ : Params) : Obj := ⟨(.type SL.s5856160107412720595x4), none, (.fields ⟨[(.str s69 480), (.str s421 481), (.str s402 482), (.int 112 0), (.int 1 0), (.int 0 0), (.int 0 0), (.int 3 0), (.ref 198), (.bool true), (.int 181 0), (.ref 199), .none, (.ref 200), (.ref 201), (.ref 202), (.int 484 0), (.int 112 0), (.str s402 485)]⟩), ⟨[]⟩⟩
noncomputable def o204_455 (_ : Params) : Obj := ⟨(.type SL.s7174869446012820540x8), none, (.func ⟨s69, s421, a59, (.stmts (mAt 27 3)), c21, 3, [], .none, .none, .none, (.str s62 446), none, (.ref 203), .none, 0⟩), ⟨[]⟩⟩
noncomputable def o205_456 (_ : Params) : Obj := ⟨(.type SL.s2766695959194262286x5), none, (.seq ⟨[]⟩ 0), ⟨[]⟩⟩
noncomputable def o206_457 (_ : Params) : Obj := ⟨.none, none, (.fields ⟨[]⟩), ⟨[]⟩⟩
noncomputable def o207_458 (_ : Params) : Obj := ⟨(.type SL.s2766695959194262286x5), none, (.seq ⟨[(.str s21 490), (.str s35 491)]⟩ 0), ⟨[]⟩⟩
noncomputable def o208_459 (_ : Params) : Obj := ⟨(.type SL.s2766695959194262286x5), none, (.seq ⟨[]⟩ 0), ⟨[]⟩⟩
noncomputable def s422 : Str := ⟨⟨[nat_lit 85, nat_lit 112, nat_lit 86, nat_lit 97, nat_lit 108, nat_lit 46, nat_lit 115, nat_lit 101, nat_lit 116]⟩⟩
noncomputable def o209_460 (_ : Params) : Obj := ⟨.none, none, (.func ⟨s70, s422, a60, (.stmts (mAt 27 4)), c25, 0, [], .none, .none, .none, .none, none, .none, .none, 0⟩), ⟨[]⟩⟩
noncomputable def o210_461 (_ : Params) : Obj := ⟨(.type SL.s5856160107412720595x4), none, (.fields ⟨[(.str s70 487), (.str s422 488), (.str s402 489), (.int 117 0), (.int 2 0), (.int 0 0), (.int 0 0), (.int 3 0), (.ref 205), (.bool true), (.int 181 0), (.ref 206), .none, (.ref 207), (.ref 208), (.ref 209), (.int 492 0), (.int 117 0), (.str s402 493)]⟩), ⟨[]⟩⟩
noncomputable def o211_462 (_ : Params) : Obj := ⟨(.type SL.s7174869446012820540x8), none, (.func ⟨s70, s422, a60, (.stmts (mAt 27 4)), c25, 3, [], .none, .none, .none, (.str s62 446), none, (.ref 210), .none, 0⟩), ⟨[]⟩⟩
noncomputable def o212_463 (_ : Params) : Obj := ⟨(.type SL.s2766695959194262286x5), none, (.seq ⟨[]⟩ 0), ⟨[]⟩⟩
noncomputable def o213_464 (_ : Params) : Obj := ⟨.none, none, (.fields ⟨[]⟩), ⟨[]⟩⟩
noncomputable def o214_465 (_ : Params) : Obj := ⟨(.type SL.s2766695959194262286x5), none, (.seq ⟨[(.str s21 498)]⟩ 0), ⟨[]⟩⟩
noncomputable def o215_466 (_ : Params) : Obj := ⟨(.type SL.s2766695959194262286x5), none, (.seq ⟨[]⟩ 0), ⟨[]⟩⟩
noncomputable def s423 : Str := ⟨⟨[nat_lit 85, nat_lit 112, nat_lit 86, nat_lit 97, nat_lit 108, nat_lit 46, nat_lit 99, nat_lit 108, nat_lit 111, nat_lit 115, nat_lit 101]⟩⟩
noncomputable def o216_467 (_ : Params) : Obj := ⟨.none, none, (.func ⟨s71, s423, a61, (.stmts (mAt 27 5)), c21, 0, [], .none, .none, .none, .none, none, .none, .none, 0⟩), ⟨[]⟩⟩
noncomputable def o217_468 (_ : Params) : Obj := ⟨(.type SL.s5856160107412720595x4), none, (.fields ⟨[(.str s71 495), (.str s423 496), (.str s402 497), (.int 123 0), (.int 1 0), (.int 0 0), (.int 0 0), (.int 3 0), (.ref 212), (.bool true), (.int 181 0), (.ref 213), .none, (.ref 214), (.ref 215), (.ref 216), (.int 499 0), (.int 123 0), (.str s402 500)]⟩), ⟨[]⟩⟩
noncomputable def o218_469 (_ : Params) : Obj := ⟨(.type SL.s7174869446012820540x8), none, (.func ⟨s71, s423, a61, (.stmts (mAt 27 5)), c21, 3, [], .none, .none, .none, (.str s62 446), none, (.ref 217), .none, 0⟩), ⟨[]⟩⟩
noncomputable def o219_470 (_ : Params) : Obj := ⟨(.type SL.s2766695959194262286x5), none, (.seq ⟨[(.str s66 502), (.str s65 503), (.str s35 504)]⟩ 0), ⟨[]⟩⟩
noncomputable def o220_471 (P : Params) : Obj := ⟨(.type SL.s14018661285674007319x4), none, (.dict ⟨[⟨(PySem.PyData.keyHash P s407), (.str s407 457), (.str s62 446)⟩, ⟨(PySem.PyData.keyHash P s409), (.str s409 461), (.int 99 460)⟩, ⟨(PySem.PyData.keyHash P s39), (.str s39 462), (.int 10 223)⟩, ⟨(PySem.PyData.keyHash P s20), (.str s20 471), (.ref 189)⟩, ⟨(PySem.PyData.keyHash P s67), (.str s67 479), (.ref 197)⟩, ⟨(PySem.PyData.keyHash P s69), (.str s69 486), (.ref 204)⟩, ⟨(PySem.PyData.keyHash P s70), (.str s70 494), (.ref 211)⟩, ⟨(PySem.PyData.keyHash P s71), (.str s71 501), (.ref 218)⟩, ⟨(PySem.PyData.keyHash P s410), (.str s410 505), (.ref 219)⟩, ⟨(PySem.PyData.keyHash P s256), (.str s256 506), .none⟩]⟩ 2), ⟨[]⟩⟩
noncomputable def o221_472 (_ : Params) : Obj := ⟨(.type SL.s17162191345867700912x4), none, (.cls ⟨s64, [(.ref 101)], [(.ref 221), (.ref 101), (.type SL.s2742458400755230247x6)], 220, s64, true, [], [], false, none, false⟩), ⟨[(some (.ref 176)), none, (some (.str s64 450)), (some (.str s64 458)), (some (.builtin SL.s11443829558043349243x14)), (some (.bool true))]⟩⟩
noncomputable def o222_473 (_ : Params) : Obj := ⟨(.type SL.s4290257624100764138x5), none, (.fields ⟨[(.ref 221), (.ref 221), (.ref 221)]⟩), ⟨[]⟩⟩
noncomputable def o223_474 (_ : Params) : Obj := ⟨(.type SL.s11030030927630378310x26), none, (.fields ⟨[(.builtin SL.s4860613602091757760x24), (.ref 221)]⟩), ⟨[]⟩⟩
noncomputable def o224_475 (_ : Params) : Obj := ⟨(.type SL.s2766695959194262286x5), none, (.seq ⟨[]⟩ 0), ⟨[]⟩⟩
noncomputable def o225_476 (_ : Params) : Obj := ⟨.none, none, (.fields ⟨[]⟩), ⟨[]⟩⟩
noncomputable def o226_477 (_ : Params) : Obj := ⟨(.type SL.s2766695959194262286x5), none, (.seq ⟨[(.str s73 512), (.str s66 513), (.str s57 514)]⟩ 0), ⟨[]⟩⟩
noncomputable def o227_478 (_ : Params) : Obj := ⟨(.type SL.s2766695959194262286x5), none, (.seq ⟨[]⟩ 0), ⟨[]⟩⟩
noncomputable def o228_479 (_ : Params) : Obj := ⟨.none, none, (.func ⟨s72, s72, a63, (.stmts (bAt 28)), c64, 0, [], .none, .none, .none, .none, none, .none, .none, 0⟩), ⟨[]⟩⟩
noncomputable def o229_480 (_ : Params) : Obj := ⟨(.type SL.s5856160107412720595x4), none, (.fields ⟨[(.str s72 509), (.str s72 510), (.str s402 511), (.int 128 0), (.int 2 0), (.int 0 0), (.int 0 0), (.int 3 0), (.ref 224), (.bool true), (.int 181 0), (.ref 225), .none, (.ref 226), (.ref 227), (.ref 228), (.int 515 0), (.int 128 0), (.str s402 516)]⟩), ⟨[]⟩⟩
noncomputable def o230_481 (_ : Params) : Obj := ⟨(.type SL.s7174869446012820540x8), none, (.func ⟨s72, s72, a63, (.stmts (bAt 28)), c64, 3, [], .none, .none, .none, (.str s62 446), none, (.ref 229), .none, 0⟩), ⟨[]⟩⟩
noncomputable def o231_482 (_ : Params) : Obj := ⟨(.type SL.s2766695959194262286x5), none, (.seq ⟨[]⟩ 0), ⟨[]⟩⟩
noncomputable def o232_483 (_ : Params) : Obj := ⟨.none, none, (.fields ⟨[]⟩), ⟨[]⟩⟩
noncomputable def o233_484 (_ : Params) : Obj := ⟨(.type SL.s2766695959194262286x5), none, (.seq ⟨[(.str s73 521), (.str s66 522), (.str s57 523)]⟩ 0), ⟨[]⟩⟩
noncomputable def o234_485 (_ : Params) : Obj := ⟨(.type SL.s2766695959194262286x5), none, (.seq ⟨[]⟩ 0), ⟨[]⟩⟩
noncomputable def o235_486 (_ : Params) : Obj := ⟨.none, none, (.func ⟨s74, s74, a66, (.stmts (bAt 29)), c67, 0, [], .none, .none, .none, .none, none, .none, .none, 0⟩), ⟨[]⟩⟩
noncomputable def o236_487 (_ : Params) : Obj := ⟨(.type SL.s5856160107412720595x4), none, (.fields ⟨[(.str s74 518), (.str s74 519), (.str s402 520), (.int 133 0), (.int 2 0), (.int 0 0), (.int 0 0), (.int 3 0), (.ref 231), (.bool true), (.int 181 0), (.ref 232), .none, (.ref 233), (.ref 234), (.ref 235), (.int 524 0), (.int 133 0), (.str s402 525)]⟩), ⟨[]⟩⟩
noncomputable def o237_488 (_ : Params) : Obj := ⟨(.type SL.s7174869446012820540x8), none, (.func ⟨s74, s74, a66, (.stmts (bAt 29)), c67, 3, [], .none, .none, .none, (.str s62 446), none, (.ref 236), .none, 0⟩), ⟨[]⟩⟩
noncomputable def o238_489 (_ : Params) : Obj := ⟨(.type SL.s2766695959194262286x5), none, (.seq ⟨[]⟩ 0), ⟨[]⟩⟩
noncomputable def o239_490 (_ : Params) : Obj := ⟨.none, none, (.fields ⟨[]⟩), ⟨[]⟩⟩
noncomputable def o240_491 (_ : Params) : Obj := ⟨(.type SL.s2766695959194262286x5), none, (.seq ⟨[(.str s73 530), (.str s76 531)]⟩ 0), ⟨[]⟩⟩
noncomputable def o241_492 (_ : Params) : Obj := ⟨(.type SL.s2766695959194262286x5), none, (.seq ⟨[]⟩ 0), ⟨[]⟩⟩
noncomputable def o242_493 (_ : Params) : Obj := ⟨.none, none, (.func ⟨s75, s75, a69, (.stmts (bAt 30)), c70, 0, [], .none, .none, .none, .none, none, .none, .none, 0⟩), ⟨[]⟩⟩
noncomputable def o243_494 (_ : Params) : Obj := ⟨(.type SL.s5856160107412720595x4), none, (.fields ⟨[(.str s75 527), (.str s75 528), (.str s402 529), (.int 138 0), (.int 2 0), (.int 0 0), (.int 0 0), (.int 3 0), (.ref 238), (.bool true), (.int 181 0), (.ref 239), .none, (.ref 240), (.ref 241), (.ref 242), (.int 532 0), (.int 138 0), (.str s402 533)]⟩), ⟨[]⟩⟩
noncomputable def o244_495 (_ : Params) : Obj := ⟨(.type SL.s7174869446012820540x8), none, (.func ⟨s75, s75, a69, (.stmts (bAt 30)), c70, 3, [], .none, .none, .none, (.str s62 446), none, (.ref 243), .none, 0⟩), ⟨[]⟩⟩
noncomputable def T3 (P : Params) : BT := (.node (o0_243 P) (.node (o1_244 P) (.node (o3_410 P) (.node (o7_250 P) (.node (o15_261 P) (.node (o31_277 P) (.node (o63_309 P) (.node (o127_375 P) .nil .nil) (.node (o191_442 P) .nil .nil)) (.node (o95_343 P) (.node (o159_407 P) .nil .nil) (.node (o223_474 P) .nil .nil))) (.node (o47_293 P) (.node (o79_325 P) (.node (o143_391 P) .nil .nil) (.node (o207_458 P) .nil .nil)) (.node (o111_359 P) (.node (o175_426 P) .nil .nil) (.node (o239_490 P) .nil .nil)))) (.node (o23_269 P) (.node (o39_285 P) (.node (o71_317 P) (.node (o135_383 P) .nil .nil) (.node (o199_450 P) .nil .nil)) (.node (o103_351 P) (.node (o167_418 P) .nil .nil) (.node (o231_482 P) .nil .nil))) (.node (o55_301 P) (.node (o87_335 P) (.node (o151_399 P) .nil .nil) (.node (o215_466 P) .nil .nil)) (.node (o119_367 P) (.node (o183_434 P) .nil .nil) .nil)))) (.node (o11_254 P) (.node (o19_265 P) (.node (o35_281 P) (.node (o67_313 P) (.node (o131_379 P) .nil .nil) (.node (o195_446 P) .nil .nil)) (.node (o99_347 P) (.node (o163_414 P) .nil .nil) (.node (o227_478 P) .nil .nil))) (.node (o51_297 P) (.node (o83_329 P) (.node (o147_395 P) .nil .nil) (.node (o211_462 P) .nil .nil)) (.node (o115_363 P) (.node (o179_430 P) .nil .nil) (.node (o243_494 P) .nil .nil)))) (.node (o27_273 P) (.node (o43_289 P) (.node (o75_321 P) (.node (o139_387 P) .nil .nil) (.node (o203_454 P) .nil .nil)) (.node (o107_355 P) (.node (o171_422 P) .nil .nil) (.node (o235_486 P) .nil .nil))) (.node (o59_305 P) (.node (o91_339 P) (.node (o155_403 P) .nil .nil) (.node (o219_470 P) .nil .nil)) (.node (o123_371 P) (.node (o187_438 P) .nil .nil) .nil))))) (.node (o5_248 P) (.node (o9_252 P) (.node (o17_263 P) (.node (o33_279 P) (.node (o65_311 P) (.node (o129_377 P) .nil .nil) (.node (o193_444 P) .nil .nil)) (.node (o97_345 P) (.node (o161_409 P) .nil .nil) (.node (o225_476 P) .nil .nil))) (.node (o49_295 P) (.node (o81_327 P) (.node (o145_393 P) .nil .nil) (.node (o209_460 P) .nil .nil)) (.node (o113_361 P) (.node (o177_428 P) .nil .nil) (.node (o241_492 P) .nil .nil)))) (.node (o25_271 P) (.node (o41_287 P) (.node (o73_319 P) (.node (o137_385 P) .nil .nil) (.node (o201_452 P) .nil .nil)) (.node (o105_353 P) (.node (o169_420 P) .nil .nil) (.node (o233_484 P) .nil .nil))) (.node (o57_303 P) (.node (o89_337 P) (.node (o153_401 P) .nil .nil) (.node (o217_468 P) .nil .nil)) (.node (o121_369 P) (.node (o185_436 P) .nil .nil) .nil)))) (.node (o13_256 P) (.node (o21_267 P) (.node (o37_283 P) (.node (o69_315 P) (.node (o133_381 P) .nil .nil) (.node (o197_448 P) .nil .nil)) (.node (o101_412 P) (.node (o165_416 P) .nil .nil) (.node (o229_480 P) .nil .nil))) (.node (o53_299 P) (.node (o85_333 P) (.node (o149_397 P) .nil .nil) (.node (o213_464 P) .nil .nil)) (.node (o117_365 P) (.node (o181_432 P) .nil .nil) .nil))) (.node (o29_275 P) (.node (o45_291 P) (.node (o77_323 P) (.node (o141_389 P) .nil .nil) (.node (o205_456 P) .nil .nil)) (.node (o109_357 P) (.node (o173_424 P) .nil .nil) (.node (o237_488 P) .nil .nil))) (.node (o61_307 P) (.node (o93_341 P) (.node (o157_405 P) .nil .nil) (.node (o221_472 P) .nil .nil)) (.node (o125_373 P) (.node (o189_440 P) .nil .nil) .nil)))))) (.node (o2_258 P) (.node (o4_247 P) (.node (o8_251 P) (.node (o16_262 P) (.node (o32_278 P) (.node (o64_310 P) (.node (o128_376 P) .nil .nil) (.node (o192_443 P) .nil .nil)) (.node (o96_344 P) (.node (o160_408 P) .nil .nil) (.node (o224_475 P) .nil .nil))) (.node (o48_294 P) (.node (o80_326 P) (.node (o144_392 P) .nil .nil) (.node (o208_459 P) .nil .nil)) (.node (o112_360 P) (.node (o176_427 P) .nil .nil) (.node (o240_491 P) .nil .nil)))) (.node (o24_270 P) (.node (o40_286 P) (.node (o72_318 P) (.node (o136_384 P) .nil .nil) (.node (o200_451 P) .nil .nil)) (.node (o104_352 P) (.node (o168_419 P) .nil .nil) (.node (o232_483 P) .nil .nil))) (.node (o56_302 P) (.node (o88_336 P) (.node (o152_400 P) .nil .nil) (.node (o216_467 P) .nil .nil)) (.node (o120_368 P) (.node (o184_435 P) .nil .nil) .nil)))) (.node (o12_411 P) (.node (o20_266 P) (.node (o36_282 P) (.node (o68_314 P) (.node (o132_380 P) .nil .nil) (.node (o196_447 P) .nil .nil)) (.node (o100_348 P) (.node (o164_415 P) .nil .nil) (.node (o228_479 P) .nil .nil))) (.node (o52_298 P) (.node (o84_330 P) (.node (o148_396 P) .nil .nil) (.node (o212_463 P) .nil .nil)) (.node (o116_364 P) (.node (o180_431 P) .nil .nil) (.node (o244_495 P) .nil .nil)))) (.node (o28_274 P) (.node (o44_290 P) (.node (o76_322 P) (.node (o140_388 P) .nil .nil) (.node (o204_455 P) .nil .nil)) (.node (o108_356 P) (.node (o172_423 P) .nil .nil) (.node (o236_487 P) .nil .nil))) (.node (o60_306 P) (.node (o92_340 P) (.node (o156_404 P) .nil .nil) (.node (o220_471 P) .nil .nil)) (.node (o124_372 P) (.node (o188_439 P) .nil .nil) .nil))))) (.node (o6_249 P) (.node (o10_253 P) (.node (o18_264 P) (.node (o34_280 P) (.node (o66_312 P) (.node (o130_378 P) .nil .nil) (.node (o194_445 P) .nil .nil)) (.node (o98_346 P) (.node (o162_413 P) .nil .nil) (.node (o226_477 P) .nil .nil))) (.node (o50_296 P) (.node (o82_328 P) (.node (o146_394 P) .nil .nil) (.node (o210_461 P) .nil .nil)) (.node (o114_362 P) (.node (o178_429 P) .nil .nil) (.node (o242_493 P) .nil .nil)))) (.node (o26_272 P) (.node (o42_288 P) (.node (o74_320 P) (.node (o138_386 P) .nil .nil) (.node (o202_453 P) .nil .nil)) (.node (o106_354 P) (.node (o170_421 P) .nil .nil) (.node (o234_485 P) .nil .nil))) (.node (o58_304 P) (.node (o90_338 P) (.node (o154_402 P) .nil .nil) (.node (o218_469 P) .nil .nil)) (.node (o122_370 P) (.node (o186_437 P) .nil .nil) .nil)))) (.node (o14_257 P) (.node (o22_268 P) (.node (o38_284 P) (.node (o70_316 P) (.node (o134_382 P) .nil .nil) (.node (o198_449 P) .nil .nil)) (.node (o102_350 P) (.node (o166_417 P) .nil .nil) (.node (o230_481 P) .nil .nil))) (.node (o54_300 P) (.node (o86_334 P) (.node (o150_398 P) .nil .nil) (.node (o214_465 P) .nil .nil)) (.node (o118_366 P) (.node (o182_433 P) .nil .nil) .nil))) (.node (o30_276 P) (.node (o46_292 P) (.node (o78_324 P) (.node (o142_390 P) .nil .nil) (.node (o206_457 P) .nil .nil)) (.node (o110_358 P) (.node (o174_425 P) .nil .nil) (.node (o238_489 P) .nil .nil))) (.node (o62_308 P) (.node (o94_342 P) (.node (o158_406 P) .nil .nil) (.node (o222_473 P) .nil .nil)) (.node (o126_374 P) (.node (o190_441 P) .nil .nil) .nil)))))))
noncomputable def o3_496 (P : Params) : Obj := ⟨(.type SL.s14018661285674007319x4), none, (.dict ⟨[⟨(PySem.PyData.keyHash P s2), (.str s2 165), (.str s79 545)⟩, ⟨(PySem.PyData.keyHash P s256), (.str s256 166), .none⟩, ⟨(PySem.PyData.keyHash P s257), (.str s257 167), .none⟩, ⟨(PySem.PyData.keyHash P s258), (.str s258 168), (.builtin SL.s7097527257260152453x26)⟩, ⟨(PySem.PyData.keyHash P s259), (.str s259 169), .none⟩, ⟨(PySem.PyData.keyHash P s399), (.str s399 170), (.ref 6)⟩, ⟨(PySem.PyData.keyHash P s400), (.str s400 171), (.ref 4)⟩, ⟨(PySem.PyData.keyHash P s401), (.str s401 173), (.str s402 172)⟩, ⟨(PySem.PyData.keyHash P s403), (.str s403 174), .none⟩, ⟨(PySem.PyData.keyHash P s0), (.str s0 193), (.ref 21)⟩, ⟨(PySem.PyData.keyHash P s4), (.str s4 203), (.ref 28)⟩, ⟨(PySem.PyData.keyHash P s9), (.str s9 208), (.int (-1) 207)⟩, ⟨(PySem.PyData.keyHash P s10), (.str s10 210), (.int 0 209)⟩, ⟨(PySem.PyData.keyHash P s11), (.str s11 212), (.int 1 211)⟩, ⟨(PySem.PyData.keyHash P s12), (.str s12 214), (.int 2 213)⟩, ⟨(PySem.PyData.keyHash P s13), (.str s13 216), (.int 3 215)⟩, ⟨(PySem.PyData.keyHash P s14), (.str s14 218), (.int 4 217)⟩, ⟨(PySem.PyData.keyHash P s15), (.str s15 220), (.int 5 219)⟩, ⟨(PySem.PyData.keyHash P s16), (.str s16 222), (.int 8 221)⟩, ⟨(PySem.PyData.keyHash P s17), (.str s17 224), (.int 10 223)⟩, ⟨(PySem.PyData.keyHash P s18), (.str s18 226), (.int 4294967295 225)⟩, ⟨(PySem.PyData.keyHash P s19), (.str s19 297), (.ref 60)⟩, ⟨(PySem.PyData.keyHash P s33), (.str s33 328), (.ref 81)⟩, ⟨(PySem.PyData.keyHash P s38), (.str s38 361), (.ref 101)⟩, ⟨(PySem.PyData.keyHash P s43), (.str s43 390), (.ref 122)⟩, ⟨(PySem.PyData.keyHash P s44), (.str s44 397), (.ref 133)⟩, ⟨(PySem.PyData.keyHash P s48), (.str s48 404), (.ref 140)⟩, ⟨(PySem.PyData.keyHash P s50), (.str s50 411), (.ref 147)⟩, ⟨(PySem.PyData.keyHash P s51), (.str s51 420), (.ref 154)⟩, ⟨(PySem.PyData.keyHash P s55), (.str s55 430), (.ref 161)⟩, ⟨(PySem.PyData.keyHash P s59), (.str s59 438), (.ref 168)⟩, ⟨(PySem.PyData.keyHash P s61), (.str s61 445), (.ref 175)⟩, ⟨(PySem.PyData.keyHash P s63), (.str s63 449), (.int 4 448)⟩, ⟨(PySem.PyData.keyHash P s64), (.str s64 508), (.ref 221)⟩, ⟨(PySem.PyData.keyHash P s72), (.str s72 517), (.ref 230)⟩, ⟨(PySem.PyData.keyHash P s74), (.str s74 526), (.ref 237)⟩, ⟨(PySem.PyData.keyHash P s75), (.str s75 534), (.ref 244)⟩, ⟨(PySem.PyData.keyHash P s77), (.str s77 544), (.ref 251)⟩, ⟨(PySem.PyData.keyHash P s80), (.str s80 548), (.int 0 547)⟩, ⟨(PySem.PyData.keyHash P s81), (.str s81 551), (.int (-1) 550)⟩, ⟨(PySem.PyData.keyHash P s82), (.str s82 553), (.int 20 552)⟩, ⟨(PySem.PyData.keyHash P s83), (.str s83 555), (.int 20 554)⟩, ⟨(PySem.PyData.keyHash P s84), (.str s84 608), (.ref 282)⟩, ⟨(PySem.PyData.keyHash P s94), (.str s94 769), (.ref 403)⟩]⟩ 44), ⟨[]⟩⟩
noncomputable def o12_497 (_ : Params) : Obj := ⟨.none, none, (.fields ⟨[(.int 1 0), (.int 0 0), (.ref 20), (.int 5 0), (.int 0 0), (.ref 27), (.int 19 0), (.int 0 0), (.ref 34), (.int 38 0), (.int 0 0), (.ref 70), (.int 44 0), (.int 0 0), (.ref 90), (.int 51 0), (.int 0 0), (.ref 111), (.int 55 0), (.int 0 0), (.ref 132), (.int 57 0), (.int 0 0), (.ref 139), (.int 71 0), (.int 0 0), (.ref 146), (.int 73 0), (.int 0 0), (.ref 153), (.int 82 0), (.int 0 0), (.ref 160), (.int 89 0), (.int 0 0), (.ref 167), (.int 95 0), (.int 0 0), (.ref 174), (.int 99 0), (.int 0 0), (.ref 181), (.int 128 0), (.int 0 0), (.ref 229), (.int 133 0), (.int 0 0), (.ref 236), (.int 138 0), (.int 0 0), (.ref 243), (.int 140 0), (.int 0 0), (.ref 250), (.int 152 0), (.int 0 0), (.ref 257), (.int 168 0), (.int 0 0), (.ref 292)]⟩), ⟨[]⟩⟩
noncomputable def o101_498 (_ : Params) : Obj := ⟨(.type SL.s17162191345867700912x4), none, (.cls ⟨s38, [(.type SL.s2742458400755230247x6)], [(.ref 101), (.type SL.s2742458400755230247x6)], 100, s38, true, [], [(.ref 221), (.ref 403)], false, none, false⟩), ⟨[none, none, (some (.str s38 329)), (some (.str s38 337)), (some (.builtin SL.s11443829558043349243x14)), (some (.bool true))]⟩⟩
noncomputable def o245_499 (_ : Params) : Obj := ⟨(.type SL.s2766695959194262286x5), none, (.seq ⟨[]⟩ 0), ⟨[]⟩⟩
noncomputable def o246_500 (_ : Params) : Obj := ⟨.none, none, (.fields ⟨[]⟩), ⟨[]⟩⟩
noncomputable def o247_501 (_ : Params) : Obj := ⟨(.type SL.s2766695959194262286x5), none, (.seq ⟨[(.str s73 538), (.str s78 539), (.str s56 540), (.str s76 541)]⟩ 0), ⟨[]⟩⟩
noncomputable def o248_502 (_ : Params) : Obj := ⟨(.type SL.s2766695959194262286x5), none, (.seq ⟨[]⟩ 0), ⟨[]⟩⟩
noncomputable def o249_503 (_ : Params) : Obj := ⟨.none, none, (.func ⟨s77, s77, a72, (.stmts (bAt 31)), c73, 0, [], .none, .none, .none, .none, none, .none, .none, 0⟩), ⟨[]⟩⟩
noncomputable def o250_504 (_ : Params) : Obj := ⟨(.type SL.s5856160107412720595x4), none, (.fields ⟨[(.str s77 535), (.str s77 536), (.str s402 537), (.int 140 0), (.int 2 0), (.int 0 0), (.int 0 0), (.int 3 0), (.ref 245), (.bool true), (.int 181 0), (.ref 246), .none, (.ref 247), (.ref 248), (.ref 249), (.int 542 0), (.int 140 0), (.str s402 543)]⟩), ⟨[]⟩⟩
noncomputable def o251_505 (_ : Params) : Obj := ⟨(.type SL.s7174869446012820540x8), none, (.func ⟨s77, s77, a72, (.stmts (bAt 31)), c73, 3, [], .none, .none, .none, (.str s62 446), none, (.ref 250), .none, 0⟩), ⟨[]⟩⟩
noncomputable def o252_506 (_ : Params) : Obj := ⟨(.type SL.s2766695959194262286x5), none, (.seq ⟨[]⟩ 0), ⟨[]⟩⟩
noncomputable def o253_507 (_ : Params) : Obj := ⟨(.type SL.s11030030927630378310x26), none, (.fields ⟨[(.builtin SL.s10062305145149207511x16), (.type SL.s17162191345867700912x4)]⟩), ⟨[]⟩⟩
noncomputable def o254_508 (P : Params) : Obj := ⟨(.type SL.s14018661285674007319x4), none, (.dict ⟨[⟨(PySem.PyData.keyHash P s407), (.str s407 563), (.str s79 545)⟩, ⟨(PySem.PyData.keyHash P s408), (.str s408 565), (.str s84 564)⟩, ⟨(PySem.PyData.keyHash P s409), (.str s409 567), (.int 152 566)⟩, ⟨(PySem.PyData.keyHash P s20), (.str s20 578), (.ref 265)⟩, ⟨(PySem.PyData.keyHash P s89), (.str s89 586), (.ref 272)⟩, ⟨(PySem.PyData.keyHash P s90), (.str s90 593), (.ref 279)⟩, ⟨(PySem.PyData.keyHash P s410), (.str s410 601), (.ref 280)⟩]⟩ 7), ⟨[]⟩⟩
noncomputable def o255_509 (_ : Params) : Obj := ⟨(.type SL.s2766695959194262286x5), none, (.seq ⟨[]⟩ 0), ⟨[]⟩⟩
noncomputable def o256_510 (_ : Params) : Obj := ⟨.none, none, (.fields ⟨[(.int 154 0), (.int 4 0), (.ref 264), (.int 163 0), (.int 4 0), (.ref 271), (.int 166 0), (.int 4 0), (.ref 278)]⟩), ⟨[]⟩⟩
noncomputable def o257_511 (_ : Params) : Obj := ⟨(.type SL.s5856160107412720595x4), none, (.fields ⟨[(.str s84 558), (.str s84 559), (.str s402 560), (.int 152 0), (.int 0 0), (.int 0 0), (.int 0 0), (.int 0 0), (.ref 255), (.bool false), (.int 181 0), (.ref 256), .none, .none, .none, .none, (.int 561 0), (.int 152 0), (.str s402 562)]⟩), ⟨[]⟩⟩
noncomputable def o258_512 (_ : Params) : Obj := ⟨(.type SL.s658472552662922059x5), none, .plain, ⟨[(some (.ref 257)), (some (.ref 3)), (some (.ref 254)), none, (some (.str s79 545)), none, (some (.ref 0))]⟩⟩
noncomputable def o259_513 (_ : Params) : Obj := ⟨(.type SL.s2766695959194262286x5), none, (.seq ⟨[]⟩ 0), ⟨[]⟩⟩
noncomputable def o260_514 (_ : Params) : Obj := ⟨.none, none, (.fields ⟨[]⟩), ⟨[]⟩⟩
noncomputable def o261_515 (_ : Params) : Obj := ⟨(.type SL.s2766695959194262286x5), none, (.seq ⟨[(.str s21 571), (.str s85 572), (.str s86 573), (.str s87 574), (.str s88 575)]⟩ 0), ⟨[]⟩⟩
noncomputable def o262_516 (_ : Params) : Obj := ⟨(.type SL.s2766695959194262286x5), none, (.seq ⟨[]⟩ 0), ⟨[]⟩⟩
noncomputable def s424 : Str := ⟨⟨[nat_lit 67, nat_lit 97, nat_lit 108, nat_lit 108, nat_lit 73, nat_lit 110, nat_lit 102, nat_lit 111, nat_lit 46, nat_lit 95, nat_lit 95, nat_lit 105, nat_lit 110, nat_lit 105, nat_lit 116, nat_lit 95, nat_lit 95]⟩⟩
noncomputable def o263_517 (_ : Params) : Obj := ⟨.none, none, (.func ⟨s20, s424, a80, (.stmts (mAt 37 0)), c81, 0, [], .none, .none, .none, .none, none, .none, .none, 0⟩), ⟨[]⟩⟩
noncomputable def o264_518 (_ : Params) : Obj := ⟨(.type SL.s5856160107412720595x4), none, (.fields ⟨[(.str s20 568), (.str s424 569), (.str s402 570), (.int 154 0), (.int 5 0), (.int 0 0), (.int 0 0), (.int 3 0), (.ref 259), (.bool true), (.int 181 0), (.ref 260), .none, (.ref 261), (.ref 262), (.ref 263), (.int 576 0), (.int 154 0), (.str s402 577)]⟩), ⟨[]⟩⟩
noncomputable def o265_519 (_ : Params) : Obj := ⟨(.type SL.s7174869446012820540x8), none, (.func ⟨s20, s424, a80, (.stmts (mAt 37 0)), c81, 3, [], .none, .none, .none, (.str s79 545), none, (.ref 264), .none, 0⟩), ⟨[]⟩⟩
noncomputable def o266_520 (_ : Params) : Obj := ⟨(.type SL.s2766695959194262286x5), none, (.seq ⟨[]⟩ 0), ⟨[]⟩⟩
noncomputable def o267_521 (_ : Params) : Obj := ⟨.none, none, (.fields ⟨[]⟩), ⟨[]⟩⟩
noncomputable def o268_522 (_ : Params) : Obj := ⟨(.type SL.s2766695959194262286x5), none, (.seq ⟨[(.str s21 582), (.str s65 583)]⟩ 0), ⟨[]⟩⟩
noncomputable def o269_523 (_ : Params) : Obj := ⟨(.type SL.s2766695959194262286x5), none, (.seq ⟨[]⟩ 0), ⟨[]⟩⟩
noncomputable def s425 : Str := ⟨⟨[nat_lit 67, nat_lit 97, nat_lit 108, nat_lit 108, nat_lit 73, nat_lit 110, nat_lit 102, nat_lit 111, nat_lit 46, nat_lit 105, nat_lit 115, nat_lit 95, nat_lit 108, nat_lit 117, nat_lit 97]⟩⟩
noncomputable def o270_524 (_ : Params) : Obj := ⟨.none, none, (.func ⟨s89, s425, a82, (.stmts (mAt 37 1)), c83, 0, [], .none, .none, .none, .none, none, .none, .none, 0⟩), ⟨[]⟩⟩
noncomputable def o271_525 (_ : Params) : Obj := ⟨(.type SL.s5856160107412720595x4), none, (.fields ⟨[(.str s89 579), (.str s425 580), (.str s402 581), (.int 163 0), (.int 2 0), (.int 0 0), (.int 0 0), (.int 3 0), (.ref 266), (.bool true), (.int 181 0), (.ref 267), .none, (.ref 268), (.ref 269), (.ref 270), (.int 584 0), (.int 163 0), (.str s402 585)]⟩), ⟨[]⟩⟩
noncomputable def o272_526 (_ : Params) : Obj := ⟨(.type SL.s7174869446012820540x8), none, (.func ⟨s89, s425, a82, (.stmts (mAt 37 1)), c83, 3, [], .none, .none, .none, (.str s79 545), none, (.ref 271), .none, 0⟩), ⟨[]⟩⟩
noncomputable def o273_527 (_ : Params) : Obj := ⟨(.type SL.s2766695959194262286x5), none, (.seq ⟨[]⟩ 0), ⟨[]⟩⟩
noncomputable def o274_528 (_ : Params) : Obj := ⟨.none, none, (.fields ⟨[]⟩), ⟨[]⟩⟩
noncomputable def o275_529 (_ : Params) : Obj := ⟨(.type SL.s2766695959194262286x5), none, (.seq ⟨[(.str s21 590)]⟩ 0), ⟨[]⟩⟩
noncomputable def o276_530 (_ : Params) : Obj := ⟨(.type SL.s2766695959194262286x5), none, (.seq ⟨[]⟩ 0), ⟨[]⟩⟩
noncomputable def s426 : Str := ⟨⟨[nat_lit 67, nat_lit 97, nat_lit 108, nat_lit 108, nat_lit 73, nat_lit 110, nat_lit 102, nat_lit 111, nat_lit 46, nat_lit 99, nat_lit 111, nat_lit 112, nat_lit 105, nat_lit 101, nat_lit 100]⟩⟩
noncomputable def o277_531 (_ : Params) : Obj := ⟨.none, none, (.func ⟨s90, s426, a84, (.stmts (mAt 37 2)), c85, 0, [], .none, .none, .none, .none, none, .none, .none, 0⟩), ⟨[]⟩⟩
noncomputable def o278_532 (_ : Params) : Obj := ⟨(.type SL.s5856160107412720595x4), none, (.fields ⟨[(.str s90 587), (.str s426 588), (.str s402 589), (.int 166 0), (.int 1 0), (.int 0 0), (.int 0 0), (.int 3 0), (.ref 273), (.bool true), (.int 181 0), (.ref 274), .none, (.ref 275), (.ref 276), (.ref 277), (.int 591 0), (.int 166 0), (.str s402 592)]⟩), ⟨[]⟩⟩
noncomputable def o279_533 (_ : Params) : Obj := ⟨(.type SL.s7174869446012820540x8), none, (.func ⟨s90, s426, a84, (.stmts (mAt 37 2)), c85, 3, [], .none, .none, .none, (.str s79 545), none, (.ref 278), .none, 0⟩), ⟨[]⟩⟩
noncomputable def o280_534 (_ : Params) : Obj := ⟨(.type SL.s2766695959194262286x5), none, (.seq ⟨[(.str s86 594), (.str s85 595), (.str s91 596), (.str s92 597), (.str s93 598), (.str s87 599), (.str s88 600)]⟩ 0), ⟨[]⟩⟩
noncomputable def o281_535 (P : Params) : Obj := ⟨(.type SL.s14018661285674007319x4), none, (.dict ⟨[⟨(PySem.PyData.keyHash P s407), (.str s407 563), (.str s79 545)⟩, ⟨(PySem.PyData.keyHash P s409), (.str s409 567), (.int 152 566)⟩, ⟨(PySem.PyData.keyHash P s20), (.str s20 578), (.ref 265)⟩, ⟨(PySem.PyData.keyHash P s89), (.str s89 586), (.ref 272)⟩, ⟨(PySem.PyData.keyHash P s90), (.str s90 593), (.ref 279)⟩, ⟨(PySem.PyData.keyHash P s410), (.str s410 601), (.ref 280)⟩, ⟨(PySem.PyData.keyHash P s414), (.str s414 603), (.ref 283)⟩, ⟨(PySem.PyData.keyHash P s415), (.str s415 605), (.ref 284)⟩, ⟨(PySem.PyData.keyHash P s256), (.str s256 606), .none⟩]⟩ 4), ⟨[]⟩⟩
noncomputable def o282_536 (_ : Params) : Obj := ⟨(.type SL.s17162191345867700912x4), none, (.cls ⟨s84, [(.type SL.s2742458400755230247x6)], [(.ref 282), (.type SL.s2742458400755230247x6)], 281, s84, true, [], [], false, none, false⟩), ⟨[none, none, (some (.str s84 556)), (some (.str s84 564)), (some (.builtin SL.s11443829558043349243x14)), (some (.bool true))]⟩⟩
noncomputable def o283_537 (_ : Params) : Obj := ⟨(.type SL.s14755015743595814543x17), none, (.fields ⟨[(.str s414 602), (.ref 282), (.builtin SL.s6511155373996960695x17), (.builtin SL.s12411053484034534018x21)]⟩), ⟨[]⟩⟩
noncomputable def o284_538 (_ : Params) : Obj := ⟨(.type SL.s14755015743595814543x17), none, (.fields ⟨[(.str s415 604), (.ref 282), (.builtin SL.s10220274742760427390x26), .none]⟩), ⟨[]⟩⟩
noncomputable def o285_539 (_ : Params) : Obj := ⟨(.type SL.s4290257624100764138x5), none, (.fields ⟨[(.ref 282), (.ref 282), (.ref 282)]⟩), ⟨[]⟩⟩
noncomputable def o286_540 (_ : Params) : Obj := ⟨(.type SL.s11030030927630378310x26), none, (.fields ⟨[(.builtin SL.s4860613602091757760x24), (.ref 282)]⟩), ⟨[]⟩⟩
noncomputable def o287_541 (_ : Params) : Obj := ⟨(.type SL.s2766695959194262286x5), none, (.seq ⟨[(.ref 101)]⟩ 0), ⟨[]⟩⟩
noncomputable def o288_542 (_ : Params) : Obj := ⟨(.type SL.s11030030927630378310x26), none, (.fields ⟨[(.builtin SL.s10062305145149207511x16), (.type SL.s17162191345867700912x4)]⟩), ⟨[]⟩⟩
noncomputable def o289_543 (P : Params) : Obj := ⟨(.type SL.s14018661285674007319x4), none, (.dict ⟨[⟨(PySem.PyData.keyHash P s407), (.str s407 616), (.str s79 545)⟩, ⟨(PySem.PyData.keyHash P s408), (.str s408 618), (.str s94 617)⟩, ⟨(PySem.PyData.keyHash P s409), (.str s409 620), (.int 168 619)⟩, ⟨(PySem.PyData.keyHash P s39), (.str s39 621), (.int 8 221)⟩, ⟨(PySem.PyData.keyHash P s20), (.str s20 629), (.ref 300)⟩, ⟨(PySem.PyData.keyHash P s96), (.str s96 637), (.ref 308)⟩, ⟨(PySem.PyData.keyHash P s97), (.str s97 645), (.ref 316)⟩, ⟨(PySem.PyData.keyHash P s98), (.str s98 652), (.ref 323)⟩, ⟨(PySem.PyData.keyHash P s99), (.str s99 661), (.ref 330)⟩, ⟨(PySem.PyData.keyHash P s101), (.str s101 669), (.ref 337)⟩, ⟨(PySem.PyData.keyHash P s102), (.str s102 677), (.ref 344)⟩, ⟨(PySem.PyData.keyHash P s103), (.str s103 688), (.ref 351)⟩, ⟨(PySem.PyData.keyHash P s109), (.str s109 697), (.ref 358)⟩, ⟨(PySem.PyData.keyHash P s110), (.str s110 707), (.ref 365)⟩, ⟨(PySem.PyData.keyHash P s111), (.str s111 715), (.ref 372)⟩, ⟨(PySem.PyData.keyHash P s112), (.str s112 727), (.ref 379)⟩, ⟨(PySem.PyData.keyHash P s113), (.str s113 734), (.ref 386)⟩, ⟨(PySem.PyData.keyHash P s114), (.str s114 742), (.ref 393)⟩, ⟨(PySem.PyData.keyHash P s115), (.str s115 749), (.ref 400)⟩, ⟨(PySem.PyData.keyHash P s410), (.str s410 766), (.ref 401)⟩]⟩ 20), ⟨[]⟩⟩
noncomputable def o290_544 (_ : Params) : Obj := ⟨(.type SL.s2766695959194262286x5), none, (.seq ⟨[]⟩ 0), ⟨[]⟩⟩
noncomputable def o291_545 (_ : Params) : Obj := ⟨.none, none, (.fields ⟨[(.int 171 0), (.int 4 0), (.ref 299), (.int 191 0), (.int 4 0), (.ref 306), (.int 195 0), (.int 4 0), (.ref 314), (.int 198 0), (.int 4 0), (.ref 322), (.int 202 0), (.int 4 0), (.ref 329), (.int 207 0), (.int 4 0), (.ref 336), (.int 213 0), (.int 4 0), (.ref 343), (.int 219 0), (.int 4 0), (.ref 350), (.int 226 0), (.int 4 0), (.ref 357), (.int 229 0), (.int 4 0), (.ref 364), (.int 236 0), (.int 4 0), (.ref 371), (.int 239 0), (.int 4 0), (.ref 378), (.int 245 0), (.int 4 0), (.ref 385), (.int 248 0), (.int 4 0), (.ref 392), (.int 251 0), (.int 4 0), (.ref 399)]⟩), ⟨[]⟩⟩
noncomputable def o292_546 (_ : Params) : Obj := ⟨(.type SL.s5856160107412720595x4), none, (.fields ⟨[(.str s94 611), (.str s94 612), (.str s402 613), (.int 168 0), (.int 0 0), (.int 0 0), (.int 0 0), (.int 0 0), (.ref 290), (.bool false), (.int 181 0), (.ref 291), .none, .none, .none, .none, (.int 614 0), (.int 168 0), (.str s402 615)]⟩), ⟨[]⟩⟩
noncomputable def o293_547 (_ : Params) : Obj := ⟨(.type SL.s658472552662922059x5), none, .plain, ⟨[(some (.ref 292)), (some (.ref 3)), (some (.ref 289)), none, (some (.str s79 545)), none, (some (.ref 0))]⟩⟩
noncomputable def o294_548 (_ : Params) : Obj := ⟨(.type SL.s2766695959194262286x5), none, (.seq ⟨[]⟩ 0), ⟨[]⟩⟩
noncomputable def o295_549 (_ : Params) : Obj := ⟨.none, none, (.fields ⟨[]⟩), ⟨[]⟩⟩
noncomputable def o296_550 (_ : Params) : Obj := ⟨(.type SL.s2766695959194262286x5), none, (.seq ⟨[(.str s21 625), (.str s95 626)]⟩ 0), ⟨[]⟩⟩
noncomputable def o297_551 (_ : Params) : Obj := ⟨(.type SL.s2766695959194262286x5), none, (.seq ⟨[]⟩ 0), ⟨[]⟩⟩
noncomputable def s427 : Str := ⟨⟨[nat_lit 84, nat_lit 104, nat_lit 114, nat_lit 101, nat_lit 97, nat_lit 100, nat_lit 46, nat_lit 95, nat_lit 95, nat_lit 105, nat_lit 110, nat_lit 105, nat_lit 116, nat_lit 95, nat_lit 95]⟩⟩
noncomputable def o298_552 (_ : Params) : Obj := ⟨.none, none, (.func ⟨s20, s427, a87, (.stmts (mAt 38 1)), c88, 0, [], .none, .none, .none, .none, none, .none, .none, 0⟩), ⟨[]⟩⟩
noncomputable def o299_553 (_ : Params) : Obj := ⟨(.type SL.s5856160107412720595x4), none, (.fields ⟨[(.str s20 622), (.str s427 623), (.str s402 624), (.int 171 0), (.int 2 0), (.int 0 0), (.int 0 0), (.int 3 0), (.ref 294), (.bool true), (.int 181 0), (.ref 295), .none, (.ref 296), (.ref 297), (.ref 298), (.int 627 0), (.int 171 0), (.str s402 628)]⟩), ⟨[]⟩⟩
noncomputable def o300_554 (_ : Params) : Obj := ⟨(.type SL.s7174869446012820540x8), none, (.func ⟨s20, s427, a87, (.stmts (mAt 38 1)), c88, 3, [], .none, .none, .none, (.str s79 545), none, (.ref 299), .none, 0⟩), ⟨[]⟩⟩
noncomputable def o301_555 (_ : Params) : Obj := ⟨(.type SL.s2766695959194262286x5), none, (.seq ⟨[]⟩ 0), ⟨[]⟩⟩
noncomputable def o302_556 (_ : Params) : Obj := ⟨.none, none, (.fields ⟨[]⟩), ⟨[]⟩⟩
noncomputable def o303_557 (_ : Params) : Obj := ⟨(.type SL.s2766695959194262286x5), none, (.seq ⟨[(.str s21 633)]⟩ 0), ⟨[]⟩⟩
noncomputable def o304_558 (_ : Params) : Obj := ⟨(.type SL.s2766695959194262286x5), none, (.seq ⟨[]⟩ 0), ⟨[]⟩⟩
noncomputable def s428 : Str := ⟨⟨[nat_lit 84, nat_lit 104, nat_lit 114, nat_lit 101, nat_lit 97, nat_lit 100, nat_lit 46, nat_lit 102, nat_lit 114, nat_lit 97, nat_lit 109, nat_lit 101]⟩⟩
noncomputable def o305_559 (_ : Params) : Obj := ⟨.none, none, (.func ⟨s96, s428, a89, (.stmts (mAt 38 2)), c90, 0, [], .none, .none, .none, .none, none, .none, .none, 0⟩), ⟨[]⟩⟩
noncomputable def o306_560 (_ : Params) : Obj := ⟨(.type SL.s5856160107412720595x4), none, (.fields ⟨[(.str s96 630), (.str s428 631), (.str s402 632), (.int 190 0), (.int 1 0), (.int 0 0), (.int 0 0), (.int 3 0), (.ref 301), (.bool true), (.int 181 0), (.ref 302), .none, (.ref 303), (.ref 304), (.ref 305), (.int 634 0), (.int 190 0), (.str s402 635)]⟩), ⟨[]⟩⟩
noncomputable def o307_561 (_ : Params) : Obj := ⟨(.type SL.s7174869446012820540x8), none, (.func ⟨s96, s428, a89, (.stmts (mAt 38 2)), c90, 3, [], .none, .none, .none, (.str s79 545), none, (.ref 306), .none, 0⟩), ⟨[]⟩⟩
noncomputable def o308_562 (_ : Params) : Obj := ⟨(.type SL.s8101838861749082086x8), none, (.fields ⟨[(.ref 307), .none, .none, .none, (.str s96 637), (.bool false)]⟩), ⟨[]⟩⟩
noncomputable def o309_563 (_ : Params) : Obj := ⟨(.type SL.s2766695959194262286x5), none, (.seq ⟨[]⟩ 0), ⟨[]⟩⟩
noncomputable def o310_564 (_ : Params) : Obj := ⟨.none, none, (.fields ⟨[]⟩), ⟨[]⟩⟩
noncomputable def o311_565 (_ : Params) : Obj := ⟨(.type SL.s2766695959194262286x5), none, (.seq ⟨[(.str s21 641)]⟩ 0), ⟨[]⟩⟩
noncomputable def o312_566 (_ : Params) : Obj := ⟨(.type SL.s2766695959194262286x5), none, (.seq ⟨[]⟩ 0), ⟨[]⟩⟩
noncomputable def s429 : Str := ⟨⟨[nat_lit 84, nat_lit 104, nat_lit 114, nat_lit 101, nat_lit 97, nat_lit 100, nat_lit 46, nat_lit 102, nat_lit 114, nat_lit 97, nat_lit 109, nat_lit 101, nat_lit 95, nat_lit 99, nat_lit 111, nat_lit 117, nat_lit 110, nat_lit 116]⟩⟩
noncomputable def o313_567 (_ : Params) : Obj := ⟨.none, none, (.func ⟨s97, s429, a91, (.stmts (mAt 38 3)), c85, 0, [], .none, .none, .none, .none, none, .none, .none, 0⟩), ⟨[]⟩⟩
noncomputable def o314_568 (_ : Params) : Obj := ⟨(.type SL.s5856160107412720595x4), none, (.fields ⟨[(.str s97 638), (.str s429 639), (.str s402 640), (.int 194 0), (.int 1 0), (.int 0 0), (.int 0 0), (.int 3 0), (.ref 309), (.bool true), (.int 181 0), (.ref 310), .none, (.ref 311), (.ref 312), (.ref 313), (.int 642 0), (.int 194 0), (.str s402 643)]⟩), ⟨[]⟩⟩
noncomputable def o315_569 (_ : Params) : Obj := ⟨(.type SL.s7174869446012820540x8), none, (.func ⟨s97, s429, a91, (.stmts (mAt 38 3)), c85, 3, [], .none, .none, .none, (.str s79 545), none, (.ref 314), .none, 0⟩), ⟨[]⟩⟩
noncomputable def o316_570 (_ : Params) : Obj := ⟨(.type SL.s8101838861749082086x8), none, (.fields ⟨[(.ref 315), .none, .none, .none, (.str s97 645), (.bool false)]⟩), ⟨[]⟩⟩
noncomputable def o317_571 (_ : Params) : Obj := ⟨(.type SL.s2766695959194262286x5), none, (.seq ⟨[]⟩ 0), ⟨[]⟩⟩
noncomputable def o318_572 (_ : Params) : Obj := ⟨.none, none, (.fields ⟨[]⟩), ⟨[]⟩⟩
noncomputable def o319_573 (_ : Params) : Obj := ⟨(.type SL.s2766695959194262286x5), none, (.seq ⟨[(.str s21 649)]⟩ 0), ⟨[]⟩⟩
noncomputable def o320_574 (_ : Params) : Obj := ⟨(.type SL.s2766695959194262286x5), none, (.seq ⟨[]⟩ 0), ⟨[]⟩⟩
noncomputable def s430 : Str := ⟨⟨[nat_lit 84, nat_lit 104, nat_lit 114, nat_lit 101, nat_lit 97, nat_lit 100, nat_lit 46, nat_lit 103, nat_lit 114, nat_lit 111, nat_lit 117, nat_lit 110, nat_lit 100]⟩⟩
noncomputable def o321_575 (_ : Params) : Obj := ⟨.none, none, (.func ⟨s98, s430, a92, (.stmts (mAt 38 4)), c93, 0, [], .none, .none, .none, .none, none, .none, .none, 0⟩), ⟨[]⟩⟩
noncomputable def o322_576 (_ : Params) : Obj := ⟨(.type SL.s5856160107412720595x4), none, (.fields ⟨[(.str s98 646), (.str s430 647), (.str s402 648), (.int 198 0), (.int 1 0), (.int 0 0), (.int 0 0), (.int 3 0), (.ref 317), (.bool true), (.int 181 0), (.ref 318), .none, (.ref 319), (.ref 320), (.ref 321), (.int 650 0), (.int 198 0), (.str s402 651)]⟩), ⟨[]⟩⟩
noncomputable def o323_577 (_ : Params) : Obj := ⟨(.type SL.s7174869446012820540x8), none, (.func ⟨s98, s430, a92, (.stmts (mAt 38 4)), c93, 3, [], .none, .none, .none, (.str s79 545), none, (.ref 322), .none, 0⟩), ⟨[]⟩⟩
noncomputable def o324_578 (_ : Params) : Obj := ⟨(.type SL.s2766695959194262286x5), none, (.seq ⟨[]⟩ 0), ⟨[]⟩⟩
noncomputable def o325_579 (_ : Params) : Obj := ⟨.none, none, (.fields ⟨[]⟩), ⟨[]⟩⟩
noncomputable def o326_580 (_ : Params) : Obj := ⟨(.type SL.s2766695959194262286x5), none, (.seq ⟨[(.str s21 656), (.str s41 657), (.str s100 658)]⟩ 0), ⟨[]⟩⟩
noncomputable def o327_581 (_ : Params) : Obj := ⟨(.type SL.s2766695959194262286x5), none, (.seq ⟨[]⟩ 0), ⟨[]⟩⟩
noncomputable def s431 : Str := ⟨⟨[nat_lit 84, nat_lit 104, nat_lit 114, nat_lit 101, nat_lit 97, nat_lit 100, nat_lit 46, nat_lit 103, nat_lit 114, nat_lit 111, nat_lit 119]⟩⟩
noncomputable def o328_582 (_ : Params) : Obj := ⟨.none, none, (.func ⟨s99, s431, a94, (.stmts (mAt 38 5)), c95, 0, [], .none, .none, .none, .none, none, .none, .none, 0⟩), ⟨[]⟩⟩
noncomputable def o329_583 (_ : Params) : Obj := ⟨(.type SL.s5856160107412720595x4), none, (.fields ⟨[(.str s99 653), (.str s431 654), (.str s402 655), (.int 202 0), (.int 2 0), (.int 0 0), (.int 0 0), (.int 3 0), (.ref 324), (.bool true), (.int 181 0), (.ref 325), .none, (.ref 326), (.ref 327), (.ref 328), (.int 659 0), (.int 202 0), (.str s402 660)]⟩), ⟨[]⟩⟩
noncomputable def o330_584 (_ : Params) : Obj := ⟨(.type SL.s7174869446012820540x8), none, (.func ⟨s99, s431, a94, (.stmts (mAt 38 5)), c95, 3, [], .none, .none, .none, (.str s79 545), none, (.ref 329), .none, 0⟩), ⟨[]⟩⟩
noncomputable def o331_585 (_ : Params) : Obj := ⟨(.type SL.s2766695959194262286x5), none, (.seq ⟨[]⟩ 0), ⟨[]⟩⟩
noncomputable def o332_586 (_ : Params) : Obj := ⟨.none, none, (.fields ⟨[]⟩), ⟨[]⟩⟩
noncomputable def o333_587 (_ : Params) : Obj := ⟨(.type SL.s2766695959194262286x5), none, (.seq ⟨[(.str s21 665), (.str s35 666)]⟩ 0), ⟨[]⟩⟩
noncomputable def o334_588 (_ : Params) : Obj := ⟨(.type SL.s2766695959194262286x5), none, (.seq ⟨[]⟩ 0), ⟨[]⟩⟩
noncomputable def s432 : Str := ⟨⟨[nat_lit 84, nat_lit 104, nat_lit 114, nat_lit 101, nat_lit 97, nat_lit 100, nat_lit 46, nat_lit 112, nat_lit 117, nat_lit 115, nat_lit 104]⟩⟩
noncomputable def o335_589 (_ : Params) : Obj := ⟨.none, none, (.func ⟨s101, s432, a96, (.stmts (mAt 38 6)), c97, 0, [], .none, .none, .none, .none, none, .none, .none, 0⟩), ⟨[]⟩⟩
noncomputable def o336_590 (_ : Params) : Obj := ⟨(.type SL.s5856160107412720595x4), none, (.fields ⟨[(.str s101 662), (.str s432 663), (.str s402 664), (.int 207 0), (.int 2 0), (.int 0 0), (.int 0 0), (.int 3 0), (.ref 331), (.bool true), (.int 181 0), (.ref 332), .none, (.ref 333), (.ref 334), (.ref 335), (.int 667 0), (.int 207 0), (.str s402 668)]⟩), ⟨[]⟩⟩
noncomputable def o337_591 (_ : Params) : Obj := ⟨(.type SL.s7174869446012820540x8), none, (.func ⟨s101, s432, a96, (.stmts (mAt 38 6)), c97, 3, [], .none, .none, .none, (.str s79 545), none, (.ref 336), .none, 0⟩), ⟨[]⟩⟩
noncomputable def o338_592 (_ : Params) : Obj := ⟨(.type SL.s2766695959194262286x5), none, (.seq ⟨[]⟩ 0), ⟨[]⟩⟩
noncomputable def o339_593 (_ : Params) : Obj := ⟨.none, none, (.fields ⟨[]⟩), ⟨[]⟩⟩
noncomputable def o340_594 (_ : Params) : Obj := ⟨(.type SL.s2766695959194262286x5), none, (.seq ⟨[(.str s21 673), (.str s35 674)]⟩ 0), ⟨[]⟩⟩
noncomputable def o341_595 (_ : Params) : Obj := ⟨(.type SL.s2766695959194262286x5), none, (.seq ⟨[]⟩ 0), ⟨[]⟩⟩
noncomputable def s433 : Str := ⟨⟨[nat_lit 84, nat_lit 104, nat_lit 114, nat_lit 101, nat_lit 97, nat_lit 100, nat_lit 46, nat_lit 112, nat_lit 111, nat_lit 112]⟩⟩
noncomputable def o342_596 (_ : Params) : Obj := ⟨.none, none, (.func ⟨s102, s433, a98, (.stmts (mAt 38 7)), c25, 0, [], .none, .none, .none, .none, none, .none, .none, 0⟩), ⟨[]⟩⟩
noncomputable def o343_597 (_ : Params) : Obj := ⟨(.type SL.s5856160107412720595x4), none, (.fields ⟨[(.str s102 670), (.str s433 671), (.str s402 672), (.int 213 0), (.int 1 0), (.int 0 0), (.int 0 0), (.int 3 0), (.ref 338), (.bool true), (.int 181 0), (.ref 339), .none, (.ref 340), (.ref 341), (.ref 342), (.int 675 0), (.int 213 0), (.str s402 676)]⟩), ⟨[]⟩⟩
noncomputable def o344_598 (_ : Params) : Obj := ⟨(.type SL.s7174869446012820540x8), none, (.func ⟨s102, s433, a98, (.stmts (mAt 38 7)), c25, 3, [], .none, .none, .none, (.str s79 545), none, (.ref 343), .none, 0⟩), ⟨[]⟩⟩
noncomputable def o345_599 (_ : Params) : Obj := ⟨(.type SL.s2766695959194262286x5), none, (.seq ⟨[]⟩ 0), ⟨[]⟩⟩
noncomputable def o346_600 (_ : Params) : Obj := ⟨.none, none, (.fields ⟨[]⟩), ⟨[]⟩⟩
noncomputable def o347_601 (_ : Params) : Obj := ⟨(.type SL.s2766695959194262286x5), none, (.seq ⟨[(.str s21 681), (.str s87 682), (.str s104 683), (.str s105 684), (.str s57 685)]⟩ 0), ⟨[]⟩⟩
noncomputable def o348_602 (_ : Params) : Obj := ⟨(.type SL.s2766695959194262286x5), none, (.seq ⟨[]⟩ 0), ⟨[]⟩⟩
noncomputable def s434 : Str := ⟨⟨[nat_lit 84, nat_lit 104, nat_lit 114, nat_lit 101, nat_lit 97, nat_lit 100, nat_lit 46, nat_lit 115, nat_lit 101, nat_lit 116, nat_lit 95, nat_lit 116, nat_lit 111, nat_lit 112]⟩⟩
noncomputable def o349_603 (_ : Params) : Obj := ⟨.none, none, (.func ⟨s103, s434, a99, (.stmts (mAt 38 8)), c100, 0, [], .none, .none, .none, .none, none, .none, .none, 0⟩), ⟨[]⟩⟩
noncomputable def o350_604 (_ : Params) : Obj := ⟨(.type SL.s5856160107412720595x4), none, (.fields ⟨[(.str s103 678), (.str s434 679), (.str s402 680), (.int 219 0), (.int 2 0), (.int 0 0), (.int 0 0), (.int 3 0), (.ref 345), (.bool true), (.int 181 0), (.ref 346), .none, (.ref 347), (.ref 348), (.ref 349), (.int 686 0), (.int 219 0), (.str s402 687)]⟩), ⟨[]⟩⟩
noncomputable def o351_605 (_ : Params) : Obj := ⟨(.type SL.s7174869446012820540x8), none, (.func ⟨s103, s434, a99, (.stmts (mAt 38 8)), c100, 3, [], .none, .none, .none, (.str s79 545), none, (.ref 350), .none, 0⟩), ⟨[]⟩⟩
noncomputable def o352_606 (_ : Params) : Obj := ⟨(.type SL.s2766695959194262286x5), none, (.seq ⟨[]⟩ 0), ⟨[]⟩⟩
noncomputable def o353_607 (_ : Params) : Obj := ⟨.none, none, (.fields ⟨[]⟩), ⟨[]⟩⟩
noncomputable def o354_608 (_ : Params) : Obj := ⟨(.type SL.s2766695959194262286x5), none, (.seq ⟨[(.str s21 692), (.str s104 693), (.str s105 694)]⟩ 0), ⟨[]⟩⟩
noncomputable def o355_609 (_ : Params) : Obj := ⟨(.type SL.s2766695959194262286x5), none, (.seq ⟨[]⟩ 0), ⟨[]⟩⟩
noncomputable def s435 : Str := ⟨⟨[nat_lit 84, nat_lit 104, nat_lit 114, nat_lit 101, nat_lit 97, nat_lit 100, nat_lit 46, nat_lit 118, nat_lit 97, nat_lit 108, nat_lit 117, nat_lit 101, nat_lit 115]⟩⟩
noncomputable def o356_610 (_ : Params) : Obj := ⟨.none, none, (.func ⟨s109, s435, a101, (.stmts (mAt 38 9)), c102, 0, [], .none, .none, .none, .none, none, .none, .none, 0⟩), ⟨[]⟩⟩
noncomputable def o357_611 (_ : Params) : Obj := ⟨(.type SL.s5856160107412720595x4), none, (.fields ⟨[(.str s109 689), (.str s435 690), (.str s402 691), (.int 226 0), (.int 3 0), (.int 0 0), (.int 0 0), (.int 3 0), (.ref 352), (.bool true), (.int 181 0), (.ref 353), .none, (.ref 354), (.ref 355), (.ref 356), (.int 695 0), (.int 226 0), (.str s402 696)]⟩), ⟨[]⟩⟩
noncomputable def o358_612 (_ : Params) : Obj := ⟨(.type SL.s7174869446012820540x8), none, (.func ⟨s109, s435, a101, (.stmts (mAt 38 9)), c102, 3, [], .none, .none, .none, (.str s79 545), none, (.ref 357), .none, 0⟩), ⟨[]⟩⟩
noncomputable def o359_613 (_ : Params) : Obj := ⟨(.type SL.s2766695959194262286x5), none, (.seq ⟨[]⟩ 0), ⟨[]⟩⟩
noncomputable def o360_614 (_ : Params) : Obj := ⟨.none, none, (.fields ⟨[]⟩), ⟨[]⟩⟩
noncomputable def o361_615 (_ : Params) : Obj := ⟨(.type SL.s2766695959194262286x5), none, (.seq ⟨[(.str s21 701), (.str s66 702), (.str s35 703), (.str s57 704)]⟩ 0), ⟨[]⟩⟩
noncomputable def o362_616 (_ : Params) : Obj := ⟨(.type SL.s2766695959194262286x5), none, (.seq ⟨[]⟩ 0), ⟨[]⟩⟩
noncomputable def s436 : Str := ⟨⟨[nat_lit 84, nat_lit 104, nat_lit 114, nat_lit 101, nat_lit 97, nat_lit 100, nat_lit 46, nat_lit 105, nat_lit 110, nat_lit 115, nat_lit 101, nat_lit 114, nat_lit 116]⟩⟩
noncomputable def o363_617 (_ : Params) : Obj := ⟨.none, none, (.func ⟨s110, s436, a103, (.stmts (mAt 38 10)), c104, 0, [], .none, .none, .none, .none, none, .none, .none, 0⟩), ⟨[]⟩⟩
noncomputable def o364_618 (_ : Params) : Obj := ⟨(.type SL.s5856160107412720595x4), none, (.fields ⟨[(.str s110 698), (.str s436 699), (.str s402 700), (.int 229 0), (.int 3 0), (.int 0 0), (.int 0 0), (.int 3 0), (.ref 359), (.bool true), (.int 181 0), (.ref 360), .none, (.ref 361), (.ref 362), (.ref 363), (.int 705 0), (.int 229 0), (.str s402 706)]⟩), ⟨[]⟩⟩
noncomputable def o365_619 (_ : Params) : Obj := ⟨(.type SL.s7174869446012820540x8), none, (.func ⟨s110, s436, a103, (.stmts (mAt 38 10)), c104, 3, [], .none, .none, .none, (.str s79 545), none, (.ref 364), .none, 0⟩), ⟨[]⟩⟩
noncomputable def o366_620 (_ : Params) : Obj := ⟨(.type SL.s2766695959194262286x5), none, (.seq ⟨[]⟩ 0), ⟨[]⟩⟩
noncomputable def o367_621 (_ : Params) : Obj := ⟨.none, none, (.fields ⟨[]⟩), ⟨[]⟩⟩
noncomputable def o368_622 (_ : Params) : Obj := ⟨(.type SL.s2766695959194262286x5), none, (.seq ⟨[(.str s21 711), (.str s66 712)]⟩ 0), ⟨[]⟩⟩
noncomputable def o369_623 (_ : Params) : Obj := ⟨(.type SL.s2766695959194262286x5), none, (.seq ⟨[]⟩ 0), ⟨[]⟩⟩
noncomputable def s437 : Str := ⟨⟨[nat_lit 84, nat_lit 104, nat_lit 114, nat_lit 101, nat_lit 97, nat_lit 100, nat_lit 46, nat_lit 114, nat_lit 101, nat_lit 109, nat_lit 111, nat_lit 118, nat_lit 101]⟩⟩
noncomputable def o370_624 (_ : Params) : Obj := ⟨.none, none, (.func ⟨s111, s437, a105, (.stmts (mAt 38 11)), c106, 0, [], .none, .none, .none, .none, none, .none, .none, 0⟩), ⟨[]⟩⟩
noncomputable def o371_625 (_ : Params) : Obj := ⟨(.type SL.s5856160107412720595x4), none, (.fields ⟨[(.str s111 708), (.str s437 709), (.str s402 710), (.int 236 0), (.int 2 0), (.int 0 0), (.int 0 0), (.int 3 0), (.ref 366), (.bool true), (.int 181 0), (.ref 367), .none, (.ref 368), (.ref 369), (.ref 370), (.int 713 0), (.int 236 0), (.str s402 714)]⟩), ⟨[]⟩⟩
noncomputable def o372_626 (_ : Params) : Obj := ⟨(.type SL.s7174869446012820540x8), none, (.func ⟨s111, s437, a105, (.stmts (mAt 38 11)), c106, 3, [], .none, .none, .none, (.str s79 545), none, (.ref 371), .none, 0⟩), ⟨[]⟩⟩
noncomputable def o373_627 (_ : Params) : Obj := ⟨(.type SL.s2766695959194262286x5), none, (.seq ⟨[]⟩ 0), ⟨[]⟩⟩
noncomputable def o374_628 (_ : Params) : Obj := ⟨.none, none, (.fields ⟨[]⟩), ⟨[]⟩⟩
noncomputable def o375_629 (_ : Params) : Obj := ⟨(.type SL.s2766695959194262286x5), none, (.seq ⟨[(.str s21 719), (.str s85 720), (.str s86 721), (.str s87 722), (.str s88 723), (.str s96 724)]⟩ 0), ⟨[]⟩⟩
noncomputable def o376_630 (_ : Params) : Obj := ⟨(.type SL.s2766695959194262286x5), none, (.seq ⟨[]⟩ 0), ⟨[]⟩⟩
noncomputable def s438 : Str := ⟨⟨[nat_lit 84, nat_lit 104, nat_lit 114, nat_lit 101, nat_lit 97, nat_lit 100, nat_lit 46, nat_lit 112, nat_lit 117, nat_lit 115, nat_lit 104, nat_lit 95, nat_lit 102, nat_lit 114, nat_lit 97, nat_lit 109, nat_lit 101]⟩⟩
noncomputable def o377_631 (_ : Params) : Obj := ⟨.none, none, (.func ⟨s112, s438, a107, (.stmts (mAt 38 12)), c108, 0, [], .none, .none, .none, .none, none, .none, .none, 0⟩), ⟨[]⟩⟩
noncomputable def o378_632 (_ : Params) : Obj := ⟨(.type SL.s5856160107412720595x4), none, (.fields ⟨[(.str s112 716), (.str s438 717), (.str s402 718), (.int 239 0), (.int 5 0), (.int 0 0), (.int 0 0), (.int 3 0), (.ref 373), (.bool true), (.int 181 0), (.ref 374), .none, (.ref 375), (.ref 376), (.ref 377), (.int 725 0), (.int 239 0), (.str s402 726)]⟩), ⟨[]⟩⟩
noncomputable def o379_633 (_ : Params) : Obj := ⟨(.type SL.s7174869446012820540x8), none, (.func ⟨s112, s438, a107, (.stmts (mAt 38 12)), c108, 3, [], .none, .none, .none, (.str s79 545), none, (.ref 378), .none, 0⟩), ⟨[]⟩⟩
noncomputable def o380_634 (_ : Params) : Obj := ⟨(.type SL.s2766695959194262286x5), none, (.seq ⟨[]⟩ 0), ⟨[]⟩⟩
noncomputable def o381_635 (_ : Params) : Obj := ⟨.none, none, (.fields ⟨[]⟩), ⟨[]⟩⟩
noncomputable def o382_636 (_ : Params) : Obj := ⟨(.type SL.s2766695959194262286x5), none, (.seq ⟨[(.str s21 731)]⟩ 0), ⟨[]⟩⟩
noncomputable def o383_637 (_ : Params) : Obj := ⟨(.type SL.s2766695959194262286x5), none, (.seq ⟨[]⟩ 0), ⟨[]⟩⟩
noncomputable def s439 : Str := ⟨⟨[nat_lit 84, nat_lit 104, nat_lit 114, nat_lit 101, nat_lit 97, nat_lit 100, nat_lit 46, nat_lit 112, nat_lit 111, nat_lit 112, nat_lit 95, nat_lit 102, nat_lit 114, nat_lit 97, nat_lit 109, nat_lit 101]⟩⟩
noncomputable def o384_638 (_ : Params) : Obj := ⟨.none, none, (.func ⟨s113, s439, a109, (.stmts (mAt 38 13)), c85, 0, [], .none, .none, .none, .none, none, .none, .none, 0⟩), ⟨[]⟩⟩
noncomputable def o385_639 (_ : Params) : Obj := ⟨(.type SL.s5856160107412720595x4), none, (.fields ⟨[(.str s113 728), (.str s439 729), (.str s402 730), (.int 245 0), (.int 1 0), (.int 0 0), (.int 0 0), (.int 3 0), (.ref 380), (.bool true), (.int 181 0), (.ref 381), .none, (.ref 382), (.ref 383), (.ref 384), (.int 732 0), (.int 245 0), (.str s402 733)]⟩), ⟨[]⟩⟩
noncomputable def o386_640 (_ : Params) : Obj := ⟨(.type SL.s7174869446012820540x8), none, (.func ⟨s113, s439, a109, (.stmts (mAt 38 13)), c85, 3, [], .none, .none, .none, (.str s79 545), none, (.ref 385), .none, 0⟩), ⟨[]⟩⟩
noncomputable def o387_641 (_ : Params) : Obj := ⟨(.type SL.s2766695959194262286x5), none, (.seq ⟨[]⟩ 0), ⟨[]⟩⟩
noncomputable def o388_642 (_ : Params) : Obj := ⟨.none, none, (.fields ⟨[]⟩), ⟨[]⟩⟩
noncomputable def o389_643 (_ : Params) : Obj := ⟨(.type SL.s2766695959194262286x5), none, (.seq ⟨[(.str s21 738), (.str s96 739)]⟩ 0), ⟨[]⟩⟩
noncomputable def o390_644 (_ : Params) : Obj := ⟨(.type SL.s2766695959194262286x5), none, (.seq ⟨[]⟩ 0), ⟨[]⟩⟩
noncomputable def s440 : Str := ⟨⟨[nat_lit 84, nat_lit 104, nat_lit 114, nat_lit 101, nat_lit 97, nat_lit 100, nat_lit 46, nat_lit 102, nat_lit 117, nat_lit 110, nat_lit 99, nat_lit 116, nat_lit 105, nat_lit 111, nat_lit 110, nat_lit 95, nat_lit 97, nat_lit 116]⟩⟩
noncomputable def o391_645 (_ : Params) : Obj := ⟨.none, none, (.func ⟨s114, s440, a110, (.stmts (mAt 38 14)), c111, 0, [], .none, .none, .none, .none, none, .none, .none, 0⟩), ⟨[]⟩⟩
noncomputable def o392_646 (_ : Params) : Obj := ⟨(.type SL.s5856160107412720595x4), none, (.fields ⟨[(.str s114 735), (.str s440 736), (.str s402 737), (.int 248 0), (.int 2 0), (.int 0 0), (.int 0 0), (.int 3 0), (.ref 387), (.bool true), (.int 181 0), (.ref 388), .none, (.ref 389), (.ref 390), (.ref 391), (.int 740 0), (.int 248 0), (.str s402 741)]⟩), ⟨[]⟩⟩
noncomputable def o393_647 (_ : Params) : Obj := ⟨(.type SL.s7174869446012820540x8), none, (.func ⟨s114, s440, a110, (.stmts (mAt 38 14)), c111, 3, [], .none, .none, .none, (.str s79 545), none, (.ref 392), .none, 0⟩), ⟨[]⟩⟩
noncomputable def o394_648 (_ : Params) : Obj := ⟨(.type SL.s2766695959194262286x5), none, (.seq ⟨[]⟩ 0), ⟨[]⟩⟩
noncomputable def o395_649 (_ : Params) : Obj := ⟨.none, none, (.fields ⟨[]⟩), ⟨[]⟩⟩
noncomputable def o396_650 (_ : Params) : Obj := ⟨(.type SL.s2766695959194262286x5), none, (.seq ⟨[(.str s21 746)]⟩ 0), ⟨[]⟩⟩
noncomputable def o397_651 (_ : Params) : Obj := ⟨(.type SL.s2766695959194262286x5), none, (.seq ⟨[]⟩ 0), ⟨[]⟩⟩
noncomputable def s441 : Str := ⟨⟨[nat_lit 84, nat_lit 104, nat_lit 114, nat_lit 101, nat_lit 97, nat_lit 100, nat_lit 46, nat_lit 115, nat_lit 104, nat_lit 114, nat_lit 105, nat_lit 110, nat_lit 107]⟩⟩
noncomputable def o398_652 (_ : Params) : Obj := ⟨.none, none, (.func ⟨s115, s441, a112, (.stmts (mAt 38 15)), c85, 0, [], .none, .none, .none, .none, none, .none, .none, 0⟩), ⟨[]⟩⟩
noncomputable def o399_653 (_ : Params) : Obj := ⟨(.type SL.s5856160107412720595x4), none, (.fields ⟨[(.str s115 743), (.str s441 744), (.str s402 745), (.int 251 0), (.int 1 0), (.int 0 0), (.int 0 0), (.int 3 0), (.ref 394), (.bool true), (.int 181 0), (.ref 395), .none, (.ref 396), (.ref 397), (.ref 398), (.int 747 0), (.int 251 0), (.str s402 748)]⟩), ⟨[]⟩⟩
noncomputable def o400_654 (_ : Params) : Obj := ⟨(.type SL.s7174869446012820540x8), none, (.func ⟨s115, s441, a112, (.stmts (mAt 38 15)), c85, 3, [], .none, .none, .none, (.str s79 545), none, (.ref 399), .none, 0⟩), ⟨[]⟩⟩
noncomputable def o401_655 (_ : Params) : Obj := ⟨(.type SL.s2766695959194262286x5), none, (.seq ⟨[(.str s116 750), (.str s117 751), (.str s26 752), (.str s118 753), (.str s5 754), (.str s95 755), (.str s119 756), (.str s120 757), (.str s121 758), (.str s122 759), (.str s123 760), (.str s27 761), (.str s124 762), (.str s125 763), (.str s87 764), (.str s126 765)]⟩ 0), ⟨[]⟩⟩
noncomputable def o402_656 (P : Params) : Obj := ⟨(.type SL.s14018661285674007319x4), none, (.dict ⟨[⟨(PySem.PyData.keyHash P s407), (.str s407 616), (.str s79 545)⟩, ⟨(PySem.PyData.keyHash P s409), (.str s409 620), (.int 168 619)⟩, ⟨(PySem.PyData.keyHash P s39), (.str s39 621), (.int 8 221)⟩, ⟨(PySem.PyData.keyHash P s20), (.str s20 629), (.ref 300)⟩, ⟨(PySem.PyData.keyHash P s96), (.str s96 637), (.ref 308)⟩, ⟨(PySem.PyData.keyHash P s97), (.str s97 645), (.ref 316)⟩, ⟨(PySem.PyData.keyHash P s98), (.str s98 652), (.ref 323)⟩, ⟨(PySem.PyData.keyHash P s99), (.str s99 661), (.ref 330)⟩, ⟨(PySem.PyData.keyHash P s101), (.str s101 669), (.ref 337)⟩, ⟨(PySem.PyData.keyHash P s102), (.str s102 677), (.ref 344)⟩, ⟨(PySem.PyData.keyHash P s103), (.str s103 688), (.ref 351)⟩, ⟨(PySem.PyData.keyHash P s109), (.str s109 697), (.ref 358)⟩, ⟨(PySem.PyData.keyHash P s110), (.str s110 707), (.ref 365)⟩, ⟨(PySem.PyData.keyHash P s111), (.str s111 715), (.ref 372)⟩, ⟨(PySem.PyData.keyHash P s112), (.str s112 727), (.ref 379)⟩, ⟨(PySem.PyData.keyHash P s113), (.str s113 734), (.ref 386)⟩, ⟨(PySem.PyData.keyHash P s114), (.str s114 742), (.ref 393)⟩, ⟨(PySem.PyData.keyHash P s115), (.str s115 749), (.ref 400)⟩, ⟨(PySem.PyData.keyHash P s410), (.str s410 766), (.ref 401)⟩, ⟨(PySem.PyData.keyHash P s256), (.str s256 767), .none⟩]⟩ 2), ⟨[]⟩⟩
noncomputable def o403_657 (_ : Params) : Obj := ⟨(.type SL.s17162191345867700912x4), none, (.cls ⟨s94, [(.ref 101)], [(.ref 403), (.ref 101), (.type SL.s2742458400755230247x6)], 402, s94, true, [], [], false, none, false⟩), ⟨[(some (.ref 287)), none, (some (.str s94 609)), (some (.str s94 617)), (some (.builtin SL.s11443829558043349243x14)), (some (.bool true))]⟩⟩
noncomputable def o404_658 (_ : Params) : Obj := ⟨(.type SL.s4290257624100764138x5), none, (.fields ⟨[(.ref 403), (.ref 403), (.ref 403)]⟩), ⟨[]⟩⟩
noncomputable def o405_659 (_ : Params) : Obj := ⟨(.type SL.s11030030927630378310x26), none, (.fields ⟨[(.builtin SL.s4860613602091757760x24), (.ref 403)]⟩), ⟨[]⟩⟩
noncomputable def T4 (P : Params) : BT := (.node (o0_243 P) (.node (o1_244 P) (.node (o3_496 P) (.node (o7_250 P) (.node (o15_261 P) (.node (o31_277 P) (.node (o63_309 P) (.node (o127_375 P) (.node (o255_509 P) .nil .nil) (.node (o383_637 P) .nil .nil)) (.node (o191_442 P) (.node (o319_573 P) .nil .nil) .nil)) (.node (o95_343 P) (.node (o159_407 P) (.node (o287_541 P) .nil .nil) .nil) (.node (o223_474 P) (.node (o351_605 P) .nil .nil) .nil))) (.node (o47_293 P) (.node (o79_325 P) (.node (o143_391 P) (.node (o271_525 P) .nil .nil) (.node (o399_653 P) .nil .nil)) (.node (o207_458 P) (.node (o335_589 P) .nil .nil) .nil)) (.node (o111_359 P) (.node (o175_426 P) (.node (o303_557 P) .nil .nil) .nil) (.node (o239_490 P) (.node (o367_621 P) .nil .nil) .nil)))) (.node (o23_269 P) (.node (o39_285 P) (.node (o71_317 P) (.node (o135_383 P) (.node (o263_517 P) .nil .nil) (.node (o391_645 P) .nil .nil)) (.node (o199_450 P) (.node (o327_581 P) .nil .nil) .nil)) (.node (o103_351 P) (.node (o167_418 P) (.node (o295_549 P) .nil .nil) .nil) (.node (o231_482 P) (.node (o359_613 P) .nil .nil) .nil))) (.node (o55_301 P) (.node (o87_335 P) (.node (o151_399 P) (.node (o279_533 P) .nil .nil) .nil) (.node (o215_466 P) (.node (o343_597 P) .nil .nil) .nil)) (.node (o119_367 P) (.node (o183_434 P) (.node (o311_565 P) .nil .nil) .nil) (.node (o247_501 P) (.node (o375_629 P) .nil .nil) .nil))))) (.node (o11_254 P) (.node (o19_265 P) (.node (o35_281 P) (.node (o67_313 P) (.node (o131_379 P) (.node (o259_513 P) .nil .nil) (.node (o387_641 P) .nil .nil)) (.node (o195_446 P) (.node (o323_577 P) .nil .nil) .nil)) (.node (o99_347 P) (.node (o163_414 P) (.node (o291_545 P) .nil .nil) .nil) (.node (o227_478 P) (.node (o355_609 P) .nil .nil) .nil))) (.node (o51_297 P) (.node (o83_329 P) (.node (o147_395 P) (.node (o275_529 P) .nil .nil) (.node (o403_657 P) .nil .nil)) (.node (o211_462 P) (.node (o339_593 P) .nil .nil) .nil)) (.node (o115_363 P) (.node (o179_430 P) (.node (o307_561 P) .nil .nil) .nil) (.node (o243_494 P) (.node (o371_625 P) .nil .nil) .nil)))) (.node (o27_273 P) (.node (o43_289 P) (.node (o75_321 P) (.node (o139_387 P) (.node (o267_521 P) .nil .nil) (.node (o395_649 P) .nil .nil)) (.node (o203_454 P) (.node (o331_585 P) .nil .nil) .nil)) (.node (o107_355 P) (.node (o171_422 P) (.node (o299_553 P) .nil .nil) .nil) (.node (o235_486 P) (.node (o363_617 P) .nil .nil) .nil))) (.node (o59_305 P) (.node (o91_339 P) (.node (o155_403 P) (.node (o283_537 P) .nil .nil) .nil) (.node (o219_470 P) (.node (o347_601 P) .nil .nil) .nil)) (.node (o123_371 P) (.node (o187_438 P) (.node (o315_569 P) .nil .nil) .nil) (.node (o251_505 P) (.node (o379_633 P) .nil .nil) .nil)))))) (.node (o5_248 P) (.node (o9_252 P) (.node (o17_263 P) (.node (o33_279 P) (.node (o65_311 P) (.node (o129_377 P) (.node (o257_511 P) .nil .nil) (.node (o385_639 P) .nil .nil)) (.node (o193_444 P) (.node (o321_575 P) .nil .nil) .nil)) (.node (o97_345 P) (.node (o161_409 P) (.node (o289_543 P) .nil .nil) .nil) (.node (o225_476 P) (.node (o353_607 P) .nil .nil) .nil))) (.node (o49_295 P) (.node (o81_327 P) (.node (o145_393 P) (.node (o273_527 P) .nil .nil) (.node (o401_655 P) .nil .nil)) (.node (o209_460 P) (.node (o337_591 P) .nil .nil) .nil)) (.node (o113_361 P) (.node (o177_428 P) (.node (o305_559 P) .nil .nil) .nil) (.node (o241_492 P) (.node (o369_623 P) .nil .nil) .nil)))) (.node (o25_271 P) (.node (o41_287 P) (.node (o73_319 P) (.node (o137_385 P) (.node (o265_519 P) .nil .nil) (.node (o393_647 P) .nil .nil)) (.node (o201_452 P) (.node (o329_583 P) .nil .nil) .nil)) (.node (o105_353 P) (.node (o169_420 P) (.node (o297_551 P) .nil .nil) .nil) (.node (o233_484 P) (.node (o361_615 P) .nil .nil) .nil))) (.node (o57_303 P) (.node (o89_337 P) (.node (o153_401 P) (.node (o281_535 P) .nil .nil) .nil) (.node (o217_468 P) (.node (o345_599 P) .nil .nil) .nil)) (.node (o121_369 P) (.node (o185_436 P) (.node (o313_567 P) .nil .nil) .nil) (.node (o249_503 P) (.node (o377_631 P) .nil .nil) .nil))))) (.node (o13_256 P) (.node (o21_267 P) (.node (o37_283 P) (.node (o69_315 P) (.node (o133_381 P) (.node (o261_515 P) .nil .nil) (.node (o389_643 P) .nil .nil)) (.node (o197_448 P) (.node (o325_579 P) .nil .nil) .nil)) (.node (o101_498 P) (.node (o165_416 P) (.node (o293_547 P) .nil .nil) .nil) (.node (o229_480 P) (.node (o357_611 P) .nil .nil) .nil))) (.node (o53_299 P) (.node (o85_333 P) (.node (o149_397 P) (.node (o277_531 P) .nil .nil) (.node (o405_659 P) .nil .nil)) (.node (o213_464 P) (.node (o341_595 P) .nil .nil) .nil)) (.node (o117_365 P) (.node (o181_432 P) (.node (o309_563 P) .nil .nil) .nil) (.node (o245_499 P) (.node (o373_627 P) .nil .nil) .nil)))) (.node (o29_275 P) (.node (o45_291 P) (.node (o77_323 P) (.node (o141_389 P) (.node (o269_523 P) .nil .nil) (.node (o397_651 P) .nil .nil)) (.node (o205_456 P) (.node (o333_587 P) .nil .nil) .nil)) (.node (o109_357 P) (.node (o173_424 P) (.node (o301_555 P) .nil .nil) .nil) (.node (o237_488 P) (.node (o365_619 P) .nil .nil) .nil))) (.node (o61_307 P) (.node (o93_341 P) (.node (o157_405 P) (.node (o285_539 P) .nil .nil) .nil) (.node (o221_472 P) (.node (o349_603 P) .nil .nil) .nil)) (.node (o125_373 P) (.node (o189_440 P) (.node (o317_571 P) .nil .nil) .nil) (.node (o253_507 P) (.node (o381_635 P) .nil .nil) .nil))))))) (.node (o2_258 P) (.node (o4_247 P) (.node (o8_251 P) (.node (o16_262 P) (.node (o32_278 P) (.node (o64_310 P) (.node (o128_376 P) (.node (o256_510 P) .nil .nil) (.node (o384_638 P) .nil .nil)) (.node (o192_443 P) (.node (o320_574 P) .nil .nil) .nil)) (.node (o96_344 P) (.node (o160_408 P) (.node (o288_542 P) .nil .nil) .nil) (.node (o224_475 P) (.node (o352_606 P) .nil .nil) .nil))) (.node (o48_294 P) (.node (o80_326 P) (.node (o144_392 P) (.node (o272_526 P) .nil .nil) (.node (o400_654 P) .nil .nil)) (.node (o208_459 P) (.node (o336_590 P) .nil .nil) .nil)) (.node (o112_360 P) (.node (o176_427 P) (.node (o304_558 P) .nil .nil) .nil) (.node (o240_491 P) (.node (o368_622 P) .nil .nil) .nil)))) (.node (o24_270 P) (.node (o40_286 P) (.node (o72_318 P) (.node (o136_384 P) (.node (o264_518 P) .nil .nil) (.node (o392_646 P) .nil .nil)) (.node (o200_451 P) (.node (o328_582 P) .nil .nil) .nil)) (.node (o104_352 P) (.node (o168_419 P) (.node (o296_550 P) .nil .nil) .nil) (.node (o232_483 P) (.node (o360_614 P) .nil .nil) .nil))) (.node (o56_302 P) (.node (o88_336 P) (.node (o152_400 P) (.node (o280_534 P) .nil .nil) .nil) (.node (o216_467 P) (.node (o344_598 P) .nil .nil) .nil)) (.node (o120_368 P) (.node (o184_435 P) (.node (o312_566 P) .nil .nil) .nil) (.node (o248_502 P) (.node (o376_630 P) .nil .nil) .nil))))) (.node (o12_497 P) (.node (o20_266 P) (.node (o36_282 P) (.node (o68_314 P) (.node (o132_380 P) (.node (o260_514 P) .nil .nil) (.node (o388_642 P) .nil .nil)) (.node (o196_447 P) (.node (o324_578 P) .nil .nil) .nil)) (.node (o100_348 P) (.node (o164_415 P) (.node (o292_546 P) .nil .nil) .nil) (.node (o228_479 P) (.node (o356_610 P) .nil .nil) .nil))) (.node (o52_298 P) (.node (o84_330 P) (.node (o148_396 P) (.node (o276_530 P) .nil .nil) (.node (o404_658 P) .nil .nil)) (.node (o212_463 P) (.node (o340_594 P) .nil .nil) .nil)) (.node (o116_364 P) (.node (o180_431 P) (.node (o308_562 P) .nil .nil) .nil) (.node (o244_495 P) (.node (o372_626 P) .nil .nil) .nil)))) (.node (o28_274 P) (.node (o44_290 P) (.node (o76_322 P) (.node (o140_388 P) (.node (o268_522 P) .nil .nil) (.node (o396_650 P) .nil .nil)) (.node (o204_455 P) (.node (o332_586 P) .nil .nil) .nil)) (.node (o108_356 P) (.node (o172_423 P) (.node (o300_554 P) .nil .nil) .nil) (.node (o236_487 P) (.node (o364_618 P) .nil .nil) .nil))) (.node (o60_306 P) (.node (o92_340 P) (.node (o156_404 P) (.node (o284_538 P) .nil .nil) .nil) (.node (o220_471 P) (.node (o348_602 P) .nil .nil) .nil)) (.node (o124_372 P) (.node (o188_439 P) (.node (o316_570 P) .nil .nil) .nil) (.node (o252_506 P) (.node (o380_634 P) .nil .nil) .nil)))))) (.node (o6_249 P) (.node (o10_253 P) (.node (o18_264 P) (.node (o34_280 P) (.node (o66_312 P) (.node (o130_378 P) (.node (o258_512 P) .nil .nil) (.node (o386_640 P) .nil .nil)) (.node (o194_445 P) (.node (o322_576 P) .nil .nil) .nil)) (.node (o98_346 P) (.node (o162_413 P) (.node (o290_544 P) .nil .nil) .nil) (.node (o226_477 P) (.node (o354_608 P) .nil .nil) .nil))) (.node (o50_296 P) (.node (o82_328 P) (.node (o146_394 P) (.node (o274_528 P) .nil .nil) (.node (o402_656 P) .nil .nil)) (.node (o210_461 P) (.node (o338_592 P) .nil .nil) .nil)) (.node (o114_362 P) (.node (o178_429 P) (.node (o306_560 P) .nil .nil) .nil) (.node (o242_493 P) (.node (o370_624 P) .nil .nil) .nil)))) (.node (o26_272 P) (.node (o42_288 P) (.node (o74_320 P) (.node (o138_386 P) (.node (o266_520 P) .nil .nil) (.node (o394_648 P) .nil .nil)) (.node (o202_453 P) (.node (o330_584 P) .nil .nil) .nil)) (.node (o106_354 P) (.node (o170_421 P) (.node (o298_552 P) .nil .nil) .nil) (.node (o234_485 P) (.node (o362_616 P) .nil .nil) .nil))) (.node (o58_304 P) (.node (o90_338 P) (.node (o154_402 P) (.node (o282_536 P) .nil .nil) .nil) (.node (o218_469 P) (.node (o346_600 P) .nil .nil) .nil)) (.node (o122_370 P) (.node (o186_437 P) (.node (o314_568 P) .nil .nil) .nil) (.node (o250_504 P) (.node (o378_632 P) .nil .nil) .nil))))) (.node (o14_257 P) (.node (o22_268 P) (.node (o38_284 P) (.node (o70_316 P) (.node (o134_382 P) (.node (o262_516 P) .nil .nil) (.node (o390_644 P) .nil .nil)) (.node (o198_449 P) (.node (o326_580 P) .nil .nil) .nil)) (.node (o102_350 P) (.node (o166_417 P) (.node (o294_548 P) .nil .nil) .nil) (.node (o230_481 P) (.node (o358_612 P) .nil .nil) .nil))) (.node (o54_300 P) (.node (o86_334 P) (.node (o150_398 P) (.node (o278_532 P) .nil .nil) .nil) (.node (o214_465 P) (.node (o342_596 P) .nil .nil) .nil)) (.node (o118_366 P) (.node (o182_433 P) (.node (o310_564 P) .nil .nil) .nil) (.node (o246_500 P) (.node (o374_628 P) .nil .nil) .nil)))) (.node (o30_276 P) (.node (o46_292 P) (.node (o78_324 P) (.node (o142_390 P) (.node (o270_524 P) .nil .nil) (.node (o398_652 P) .nil .nil)) (.node (o206_457 P) (.node (o334_588 P) .nil .nil) .nil)) (.node (o110_358 P) (.node (o174_425 P) (.node (o302_556 P) .nil .nil) .nil) (.node (o238_489 P) (.node (o366_620 P) .nil .nil) .nil))) (.node (o62_308 P) (.node (o94_342 P) (.node (o158_406 P) (.node (o286_540 P) .nil .nil) .nil) (.node (o222_473 P) (.node (o350_604 P) .nil .nil) .nil)) (.node (o126_374 P) (.node (o190_441 P) (.node (o318_572 P) .nil .nil) .nil) (.node (o254_508 P) (.node (o382_636 P) .nil .nil) .nil))))))))
noncomputable def o3_660 (P : Params) : Obj := ⟨(.type SL.s14018661285674007319x4), none, (.dict ⟨[⟨(PySem.PyData.keyHash P s2), (.str s2 165), (.str s148 855)⟩, ⟨(PySem.PyData.keyHash P s256), (.str s256 166), .none⟩, ⟨(PySem.PyData.keyHash P s257), (.str s257 167), .none⟩, ⟨(PySem.PyData.keyHash P s258), (.str s258 168), (.builtin SL.s7097527257260152453x26)⟩, ⟨(PySem.PyData.keyHash P s259), (.str s259 169), .none⟩, ⟨(PySem.PyData.keyHash P s399), (.str s399 170), (.ref 6)⟩, ⟨(PySem.PyData.keyHash P s400), (.str s400 171), (.ref 4)⟩, ⟨(PySem.PyData.keyHash P s401), (.str s401 173), (.str s402 172)⟩, ⟨(PySem.PyData.keyHash P s403), (.str s403 174), .none⟩, ⟨(PySem.PyData.keyHash P s0), (.str s0 193), (.ref 21)⟩, ⟨(PySem.PyData.keyHash P s4), (.str s4 203), (.ref 28)⟩, ⟨(PySem.PyData.keyHash P s9), (.str s9 208), (.int (-1) 207)⟩, ⟨(PySem.PyData.keyHash P s10), (.str s10 210), (.int 0 209)⟩, ⟨(PySem.PyData.keyHash P s11), (.str s11 212), (.int 1 211)⟩, ⟨(PySem.PyData.keyHash P s12), (.str s12 214), (.int 2 213)⟩, ⟨(PySem.PyData.keyHash P s13), (.str s13 216), (.int 3 215)⟩, ⟨(PySem.PyData.keyHash P s14), (.str s14 218), (.int 4 217)⟩, ⟨(PySem.PyData.keyHash P s15), (.str s15 220), (.int 5 219)⟩, ⟨(PySem.PyData.keyHash P s16), (.str s16 222), (.int 8 221)⟩, ⟨(PySem.PyData.keyHash P s17), (.str s17 224), (.int 10 223)⟩, ⟨(PySem.PyData.keyHash P s18), (.str s18 226), (.int 4294967295 225)⟩, ⟨(PySem.PyData.keyHash P s19), (.str s19 297), (.ref 60)⟩, ⟨(PySem.PyData.keyHash P s33), (.str s33 328), (.ref 81)⟩, ⟨(PySem.PyData.keyHash P s38), (.str s38 361), (.ref 101)⟩, ⟨(PySem.PyData.keyHash P s43), (.str s43 390), (.ref 122)⟩, ⟨(PySem.PyData.keyHash P s44), (.str s44 397), (.ref 133)⟩, ⟨(PySem.PyData.keyHash P s48), (.str s48 404), (.ref 140)⟩, ⟨(PySem.PyData.keyHash P s50), (.str s50 411), (.ref 147)⟩, ⟨(PySem.PyData.keyHash P s51), (.str s51 420), (.ref 154)⟩, ⟨(PySem.PyData.keyHash P s55), (.str s55 430), (.ref 161)⟩, ⟨(PySem.PyData.keyHash P s59), (.str s59 438), (.ref 168)⟩, ⟨(PySem.PyData.keyHash P s61), (.str s61 445), (.ref 175)⟩, ⟨(PySem.PyData.keyHash P s63), (.str s63 449), (.int 4 448)⟩, ⟨(PySem.PyData.keyHash P s64), (.str s64 508), (.ref 221)⟩, ⟨(PySem.PyData.keyHash P s72), (.str s72 517), (.ref 230)⟩, ⟨(PySem.PyData.keyHash P s74), (.str s74 526), (.ref 237)⟩, ⟨(PySem.PyData.keyHash P s75), (.str s75 534), (.ref 244)⟩, ⟨(PySem.PyData.keyHash P s77), (.str s77 544), (.ref 251)⟩, ⟨(PySem.PyData.keyHash P s80), (.str s80 548), (.int 0 547)⟩, ⟨(PySem.PyData.keyHash P s81), (.str s81 551), (.int (-1) 550)⟩, ⟨(PySem.PyData.keyHash P s82), (.str s82 553), (.int 20 552)⟩, ⟨(PySem.PyData.keyHash P s83), (.str s83 555), (.int 20 554)⟩, ⟨(PySem.PyData.keyHash P s84), (.str s84 608), (.ref 282)⟩, ⟨(PySem.PyData.keyHash P s94), (.str s94 769), (.ref 403)⟩, ⟨(PySem.PyData.keyHash P s127), (.str s127 814), (.ref 429)⟩, ⟨(PySem.PyData.keyHash P s138), (.str s138 823), (.ref 440)⟩, ⟨(PySem.PyData.keyHash P s139), (.str s139 832), (.ref 447)⟩, ⟨(PySem.PyData.keyHash P s141), (.str s141 841), (.ref 454)⟩, ⟨(PySem.PyData.keyHash P s143), (.str s143 854), (.ref 461)⟩, ⟨(PySem.PyData.keyHash P s149), (.str s149 858), (.int 26 857)⟩, ⟨(PySem.PyData.keyHash P s150), (.str s150 861), (.int 67108864 860)⟩, ⟨(PySem.PyData.keyHash P s151), (.str s151 865), (.int 4194304 864)⟩, ⟨(PySem.PyData.keyHash P s152), (.str s152 869), (.int 1048576 868)⟩, ⟨(PySem.PyData.keyHash P s153), (.str s153 871), (.int 56 870)⟩, ⟨(PySem.PyData.keyHash P s154), (.str s154 873), (.int 16 872)⟩, ⟨(PySem.PyData.keyHash P s155), (.str s155 875), (.int 32 874)⟩, ⟨(PySem.PyData.keyHash P s156), (.str s156 904), (.ref 478)⟩]⟩ 57), ⟨[]⟩⟩
noncomputable def o12_661 (_ : Params) : Obj := ⟨.none, none, (.fields ⟨[(.int 1 0), (.int 0 0), (.ref 20), (.int 5 0), (.int 0 0), (.ref 27), (.int 19 0), (.int 0 0), (.ref 34), (.int 38 0), (.int 0 0), (.ref 70), (.int 44 0), (.int 0 0), (.ref 90), (.int 51 0), (.int 0 0), (.ref 111), (.int 55 0), (.int 0 0), (.ref 132), (.int 57 0), (.int 0 0), (.ref 139), (.int 71 0), (.int 0 0), (.ref 146), (.int 73 0), (.int 0 0), (.ref 153), (.int 82 0), (.int 0 0), (.ref 160), (.int 89 0), (.int 0 0), (.ref 167), (.int 95 0), (.int 0 0), (.ref 174), (.int 99 0), (.int 0 0), (.ref 181), (.int 128 0), (.int 0 0), (.ref 229), (.int 133 0), (.int 0 0), (.ref 236), (.int 138 0), (.int 0 0), (.ref 243), (.int 140 0), (.int 0 0), (.ref 250), (.int 152 0), (.int 0 0), (.ref 257), (.int 168 0), (.int 0 0), (.ref 292), (.int 253 0), (.int 0 0), (.ref 411), (.int 269 0), (.int 0 0), (.ref 439), (.int 277 0), (.int 0 0), (.ref 446), (.int 281 0), (.int 0 0), (.ref 453), (.int 287 0), (.int 0 0), (.ref 460), (.int 305 0), (.int 0 0), (.ref 467)]⟩), ⟨[]⟩⟩
noncomputable def o406_662 (_ : Params) : Obj := ⟨(.type SL.s2766695959194262286x5), none, (.seq ⟨[]⟩ 0), ⟨[]⟩⟩
noncomputable def o407_663 (_ : Params) : Obj := ⟨(.type SL.s11030030927630378310x26), none, (.fields ⟨[(.builtin SL.s10062305145149207511x16), (.type SL.s17162191345867700912x4)]⟩), ⟨[]⟩⟩
noncomputable def o408_664 (P : Params) : Obj := ⟨(.type SL.s14018661285674007319x4), none, (.dict ⟨[⟨(PySem.PyData.keyHash P s407), (.str s407 777), (.str s79 545)⟩, ⟨(PySem.PyData.keyHash P s408), (.str s408 779), (.str s127 778)⟩, ⟨(PySem.PyData.keyHash P s409), (.str s409 781), (.int 253 780)⟩, ⟨(PySem.PyData.keyHash P s20), (.str s20 789), (.ref 419)⟩, ⟨(PySem.PyData.keyHash P s129), (.str s129 796), (.ref 426)⟩, ⟨(PySem.PyData.keyHash P s410), (.str s410 807), (.ref 427)⟩]⟩ 6), ⟨[]⟩⟩
noncomputable def o409_665 (_ : Params) : Obj := ⟨(.type SL.s2766695959194262286x5), none, (.seq ⟨[]⟩ 0), ⟨[]⟩⟩
noncomputable def o410_666 (_ : Params) : Obj := ⟨.none, none, (.fields ⟨[(.int 255 0), (.int 4 0), (.ref 418), (.int 267 0), (.int 4 0), (.ref 425)]⟩), ⟨[]⟩⟩
noncomputable def o411_667 (_ : Params) : Obj := ⟨(.type SL.s5856160107412720595x4), none, (.fields ⟨[(.str s127 772), (.str s127 773), (.str s402 774), (.int 253 0), (.int 0 0), (.int 0 0), (.int 0 0), (.int 0 0), (.ref 409), (.bool false), (.int 181 0), (.ref 410), .none, .none, .none, .none, (.int 775 0), (.int 253 0), (.str s402 776)]⟩), ⟨[]⟩⟩
noncomputable def o412_668 (_ : Params) : Obj := ⟨(.type SL.s658472552662922059x5), none, .plain, ⟨[(some (.ref 411)), (some (.ref 3)), (some (.ref 408)), none, (some (.str s79 545)), none, (some (.ref 0))]⟩⟩
noncomputable def o413_669 (_ : Params) : Obj := ⟨(.type SL.s2766695959194262286x5), none, (.seq ⟨[]⟩ 0), ⟨[]⟩⟩
noncomputable def o414_670 (_ : Params) : Obj := ⟨.none, none, (.fields ⟨[]⟩), ⟨[]⟩⟩
noncomputable def o415_671 (_ : Params) : Obj := ⟨(.type SL.s2766695959194262286x5), none, (.seq ⟨[(.str s21 785), (.str s128 786)]⟩ 0), ⟨[]⟩⟩
noncomputable def o416_672 (_ : Params) : Obj := ⟨(.type SL.s2766695959194262286x5), none, (.seq ⟨[]⟩ 0), ⟨[]⟩⟩
noncomputable def s442 : Str := ⟨⟨[nat_lit 71, nat_lit 108, nat_lit 111, nat_lit 98, nat_lit 97, nat_lit 108, nat_lit 46, nat_lit 95, nat_lit 95, nat_lit 105, nat_lit 110, nat_lit 105, nat_lit 116, nat_lit 95, nat_lit 95]⟩⟩
noncomputable def o417_673 (_ : Params) : Obj := ⟨.none, none, (.func ⟨s20, s442, a114, (.stmts (mAt 39 0)), c115, 0, [], .none, .none, .none, .none, none, .none, .none, 0⟩), ⟨[]⟩⟩
noncomputable def o418_674 (_ : Params) : Obj := ⟨(.type SL.s5856160107412720595x4), none, (.fields ⟨[(.str s20 782), (.str s442 783), (.str s402 784), (.int 255 0), (.int 2 0), (.int 0 0), (.int 0 0), (.int 3 0), (.ref 413), (.bool true), (.int 181 0), (.ref 414), .none, (.ref 415), (.ref 416), (.ref 417), (.int 787 0), (.int 255 0), (.str s402 788)]⟩), ⟨[]⟩⟩
noncomputable def o419_675 (_ : Params) : Obj := ⟨(.type SL.s7174869446012820540x8), none, (.func ⟨s20, s442, a114, (.stmts (mAt 39 0)), c115, 3, [], .none, .none, .none, (.str s79 545), none, (.ref 418), .none, 0⟩), ⟨[]⟩⟩
noncomputable def o420_676 (_ : Params) : Obj := ⟨(.type SL.s2766695959194262286x5), none, (.seq ⟨[]⟩ 0), ⟨[]⟩⟩
noncomputable def o421_677 (_ : Params) : Obj := ⟨.none, none, (.fields ⟨[]⟩), ⟨[]⟩⟩
noncomputable def o422_678 (_ : Params) : Obj := ⟨(.type SL.s2766695959194262286x5), none, (.seq ⟨[(.str s21 793)]⟩ 0), ⟨[]⟩⟩
noncomputable def o423_679 (_ : Params) : Obj := ⟨(.type SL.s2766695959194262286x5), none, (.seq ⟨[]⟩ 0), ⟨[]⟩⟩
noncomputable def s443 : Str := ⟨⟨[nat_lit 71, nat_lit 108, nat_lit 111, nat_lit 98, nat_lit 97, nat_lit 108, nat_lit 46, nat_lit 110, nat_lit 101, nat_lit 120, nat_lit 116, nat_lit 95, nat_lit 110, nat_lit 117, nat_lit 109, nat_lit 98, nat_lit 101, nat_lit 114]⟩⟩
noncomputable def o424_680 (_ : Params) : Obj := ⟨.none, none, (.func ⟨s129, s443, a116, (.stmts (mAt 39 1)), c85, 0, [], .none, .none, .none, .none, none, .none, .none, 0⟩), ⟨[]⟩⟩
noncomputable def o425_681 (_ : Params) : Obj := ⟨(.type SL.s5856160107412720595x4), none, (.fields ⟨[(.str s129 790), (.str s443 791), (.str s402 792), (.int 267 0), (.int 1 0), (.int 0 0), (.int 0 0), (.int 3 0), (.ref 420), (.bool true), (.int 181 0), (.ref 421), .none, (.ref 422), (.ref 423), (.ref 424), (.int 794 0), (.int 267 0), (.str s402 795)]⟩), ⟨[]⟩⟩
noncomputable def o426_682 (_ : Params) : Obj := ⟨(.type SL.s7174869446012820540x8), none, (.func ⟨s129, s443, a116, (.stmts (mAt 39 1)), c85, 3, [], .none, .none, .none, (.str s79 545), none, (.ref 425), .none, 0⟩), ⟨[]⟩⟩
noncomputable def o427_683 (_ : Params) : Obj := ⟨(.type SL.s2766695959194262286x5), none, (.seq ⟨[(.str s130 797), (.str s131 798), (.str s128 799), (.str s132 800), (.str s133 801), (.str s134 802), (.str s135 803), (.str s136 804), (.str s29 805), (.str s137 806)]⟩ 0), ⟨[]⟩⟩
noncomputable def o428_684 (P : Params) : Obj := ⟨(.type SL.s14018661285674007319x4), none, (.dict ⟨[⟨(PySem.PyData.keyHash P s407), (.str s407 777), (.str s79 545)⟩, ⟨(PySem.PyData.keyHash P s409), (.str s409 781), (.int 253 780)⟩, ⟨(PySem.PyData.keyHash P s20), (.str s20 789), (.ref 419)⟩, ⟨(PySem.PyData.keyHash P s129), (.str s129 796), (.ref 426)⟩, ⟨(PySem.PyData.keyHash P s410), (.str s410 807), (.ref 427)⟩, ⟨(PySem.PyData.keyHash P s414), (.str s414 809), (.ref 430)⟩, ⟨(PySem.PyData.keyHash P s415), (.str s415 811), (.ref 431)⟩, ⟨(PySem.PyData.keyHash P s256), (.str s256 812), .none⟩]⟩ 4), ⟨[]⟩⟩
noncomputable def o429_685 (_ : Params) : Obj := ⟨(.type SL.s17162191345867700912x4), none, (.cls ⟨s127, [(.type SL.s2742458400755230247x6)], [(.ref 429), (.type SL.s2742458400755230247x6)], 428, s127, true, [], [], false, none, false⟩), ⟨[none, none, (some (.str s127 770)), (some (.str s127 778)), (some (.builtin SL.s11443829558043349243x14)), (some (.bool true))]⟩⟩
noncomputable def o430_686 (_ : Params) : Obj := ⟨(.type SL.s14755015743595814543x17), none, (.fields ⟨[(.str s414 808), (.ref 429), (.builtin SL.s6511155373996960695x17), (.builtin SL.s12411053484034534018x21)]⟩), ⟨[]⟩⟩
noncomputable def o431_687 (_ : Params) : Obj := ⟨(.type SL.s14755015743595814543x17), none, (.fields ⟨[(.str s415 810), (.ref 429), (.builtin SL.s10220274742760427390x26), .none]⟩), ⟨[]⟩⟩
noncomputable def o432_688 (_ : Params) : Obj := ⟨(.type SL.s4290257624100764138x5), none, (.fields ⟨[(.ref 429), (.ref 429), (.ref 429)]⟩), ⟨[]⟩⟩
noncomputable def o433_689 (_ : Params) : Obj := ⟨(.type SL.s11030030927630378310x26), none, (.fields ⟨[(.builtin SL.s4860613602091757760x24), (.ref 429)]⟩), ⟨[]⟩⟩
noncomputable def o434_690 (_ : Params) : Obj := ⟨(.type SL.s2766695959194262286x5), none, (.seq ⟨[]⟩ 0), ⟨[]⟩⟩
noncomputable def o435_691 (_ : Params) : Obj := ⟨.none, none, (.fields ⟨[]⟩), ⟨[]⟩⟩
noncomputable def o436_692 (_ : Params) : Obj := ⟨(.type SL.s2766695959194262286x5), none, (.seq ⟨[(.str s65 818), (.str s66 819), (.str s56 820)]⟩ 0), ⟨[]⟩⟩
noncomputable def o437_693 (_ : Params) : Obj := ⟨(.type SL.s2766695959194262286x5), none, (.seq ⟨[]⟩ 0), ⟨[]⟩⟩
noncomputable def o438_694 (_ : Params) : Obj := ⟨.none, none, (.func ⟨s138, s138, a118, (.stmts (bAt 40)), c119, 0, [], .none, .none, .none, .none, none, .none, .none, 0⟩), ⟨[]⟩⟩
noncomputable def o439_695 (_ : Params) : Obj := ⟨(.type SL.s5856160107412720595x4), none, (.fields ⟨[(.str s138 815), (.str s138 816), (.str s402 817), (.int 269 0), (.int 2 0), (.int 0 0), (.int 0 0), (.int 3 0), (.ref 434), (.bool true), (.int 181 0), (.ref 435), .none, (.ref 436), (.ref 437), (.ref 438), (.int 821 0), (.int 269 0), (.str s402 822)]⟩), ⟨[]⟩⟩
noncomputable def o440_696 (_ : Params) : Obj := ⟨(.type SL.s7174869446012820540x8), none, (.func ⟨s138, s138, a118, (.stmts (bAt 40)), c119, 3, [], .none, .none, .none, (.str s79 545), none, (.ref 439), .none, 0⟩), ⟨[]⟩⟩
noncomputable def o441_697 (_ : Params) : Obj := ⟨(.type SL.s2766695959194262286x5), none, (.seq ⟨[]⟩ 0), ⟨[]⟩⟩
noncomputable def o442_698 (_ : Params) : Obj := ⟨.none, none, (.fields ⟨[]⟩), ⟨[]⟩⟩
noncomputable def o443_699 (_ : Params) : Obj := ⟨(.type SL.s2766695959194262286x5), none, (.seq ⟨[(.str s65 827), (.str s78 828), (.str s76 829)]⟩ 0), ⟨[]⟩⟩
noncomputable def o444_700 (_ : Params) : Obj := ⟨(.type SL.s2766695959194262286x5), none, (.seq ⟨[]⟩ 0), ⟨[]⟩⟩
noncomputable def o445_701 (_ : Params) : Obj := ⟨.none, none, (.func ⟨s139, s139, a121, (.stmts (bAt 41)), c122, 0, [], .none, .none, .none, .none, none, .none, .none, 0⟩), ⟨[]⟩⟩
noncomputable def o446_702 (_ : Params) : Obj := ⟨(.type SL.s5856160107412720595x4), none, (.fields ⟨[(.str s139 824), (.str s139 825), (.str s402 826), (.int 277 0), (.int 2 0), (.int 0 0), (.int 0 0), (.int 3 0), (.ref 441), (.bool true), (.int 181 0), (.ref 442), .none, (.ref 443), (.ref 444), (.ref 445), (.int 830 0), (.int 277 0), (.str s402 831)]⟩), ⟨[]⟩⟩
noncomputable def o447_703 (_ : Params) : Obj := ⟨(.type SL.s7174869446012820540x8), none, (.func ⟨s139, s139, a121, (.stmts (bAt 41)), c122, 3, [], .none, .none, .none, (.str s79 545), none, (.ref 446), .none, 0⟩), ⟨[]⟩⟩
noncomputable def o448_704 (_ : Params) : Obj := ⟨(.type SL.s2766695959194262286x5), none, (.seq ⟨[]⟩ 0), ⟨[]⟩⟩
noncomputable def o449_705 (_ : Params) : Obj := ⟨.none, none, (.fields ⟨[]⟩), ⟨[]⟩⟩
noncomputable def o450_706 (_ : Params) : Obj := ⟨(.type SL.s2766695959194262286x5), none, (.seq ⟨[(.str s65 838)]⟩ 0), ⟨[]⟩⟩
noncomputable def o451_707 (_ : Params) : Obj := ⟨(.type SL.s2766695959194262286x5), none, (.seq ⟨[]⟩ 0), ⟨[]⟩⟩
noncomputable def o452_708 (_ : Params) : Obj := ⟨.none, none, (.func ⟨s141, s141, a125, (.stmts (bAt 43)), c126, 0, [], .none, .none, .none, .none, none, .none, .none, 0⟩), ⟨[]⟩⟩
noncomputable def o453_709 (_ : Params) : Obj := ⟨(.type SL.s5856160107412720595x4), none, (.fields ⟨[(.str s141 835), (.str s141 836), (.str s402 837), (.int 281 0), (.int 1 0), (.int 0 0), (.int 0 0), (.int 3 0), (.ref 448), (.bool true), (.int 181 0), (.ref 449), .none, (.ref 450), (.ref 451), (.ref 452), (.int 839 0), (.int 281 0), (.str s402 840)]⟩), ⟨[]⟩⟩
noncomputable def o454_710 (_ : Params) : Obj := ⟨(.type SL.s7174869446012820540x8), none, (.func ⟨s141, s141, a125, (.stmts (bAt 43)), c126, 3, [], .none, .none, .none, (.str s140 833), none, (.ref 453), .none, 0⟩), ⟨[]⟩⟩
noncomputable def o455_711 (_ : Params) : Obj := ⟨(.type SL.s2766695959194262286x5), none, (.seq ⟨[]⟩ 0), ⟨[]⟩⟩
noncomputable def o456_712 (_ : Params) : Obj := ⟨.none, none, (.fields ⟨[]⟩), ⟨[]⟩⟩
noncomputable def o457_713 (_ : Params) : Obj := ⟨(.type SL.s2766695959194262286x5), none, (.seq ⟨[(.str s144 847), (.str s145 848), (.str s146 849), (.str s56 850), (.str s147 851)]⟩ 0), ⟨[]⟩⟩
noncomputable def o458_714 (_ : Params) : Obj := ⟨(.type SL.s2766695959194262286x5), none, (.seq ⟨[]⟩ 0), ⟨[]⟩⟩
noncomputable def o459_715 (_ : Params) : Obj := ⟨.none, none, (.func ⟨s143, s143, a129, (.stmts (bAt 45)), c130, 0, [], .none, .none, .none, .none, none, .none, .none, 0⟩), ⟨[]⟩⟩
noncomputable def o460_716 (_ : Params) : Obj := ⟨(.type SL.s5856160107412720595x4), none, (.fields ⟨[(.str s143 844), (.str s143 845), (.str s402 846), (.int 287 0), (.int 1 0), (.int 0 0), (.int 0 0), (.int 3 0), (.ref 455), (.bool true), (.int 181 0), (.ref 456), .none, (.ref 457), (.ref 458), (.ref 459), (.int 852 0), (.int 287 0), (.str s402 853)]⟩), ⟨[]⟩⟩
noncomputable def o461_717 (_ : Params) : Obj := ⟨(.type SL.s7174869446012820540x8), none, (.func ⟨s143, s143, a129, (.stmts (bAt 45)), c130, 3, [], .none, .none, .none, (.str s142 842), none, (.ref 460), .none, 0⟩), ⟨[]⟩⟩
noncomputable def o462_718 (_ : Params) : Obj := ⟨(.type SL.s2766695959194262286x5), none, (.seq ⟨[]⟩ 0), ⟨[]⟩⟩
noncomputable def o463_719 (_ : Params) : Obj := ⟨(.type SL.s11030030927630378310x26), none, (.fields ⟨[(.builtin SL.s10062305145149207511x16), (.type SL.s17162191345867700912x4)]⟩), ⟨[]⟩⟩
noncomputable def o464_720 (P : Params) : Obj := ⟨(.type SL.s14018661285674007319x4), none, (.dict ⟨[⟨(PySem.PyData.keyHash P s407), (.str s407 883), (.str s148 855)⟩, ⟨(PySem.PyData.keyHash P s408), (.str s408 885), (.str s156 884)⟩, ⟨(PySem.PyData.keyHash P s409), (.str s409 887), (.int 305 886)⟩, ⟨(PySem.PyData.keyHash P s20), (.str s20 895), (.ref 475)⟩, ⟨(PySem.PyData.keyHash P s410), (.str s410 897), (.ref 476)⟩]⟩ 5), ⟨[]⟩⟩
noncomputable def o465_721 (_ : Params) : Obj := ⟨(.type SL.s2766695959194262286x5), none, (.seq ⟨[]⟩ 0), ⟨[]⟩⟩
noncomputable def o466_722 (_ : Params) : Obj := ⟨.none, none, (.fields ⟨[(.int 307 0), (.int 4 0), (.ref 474)]⟩), ⟨[]⟩⟩
noncomputable def o467_723 (_ : Params) : Obj := ⟨(.type SL.s5856160107412720595x4), none, (.fields ⟨[(.str s156 878), (.str s156 879), (.str s402 880), (.int 305 0), (.int 0 0), (.int 0 0), (.int 0 0), (.int 0 0), (.ref 465), (.bool false), (.int 181 0), (.ref 466), .none, .none, .none, .none, (.int 881 0), (.int 305 0), (.str s402 882)]⟩), ⟨[]⟩⟩
noncomputable def o468_724 (_ : Params) : Obj := ⟨(.type SL.s658472552662922059x5), none, .plain, ⟨[(some (.ref 467)), (some (.ref 3)), (some (.ref 464)), none, (some (.str s148 855)), none, (some (.ref 0))]⟩⟩
noncomputable def o469_725 (_ : Params) : Obj := ⟨(.type SL.s2766695959194262286x5), none, (.seq ⟨[]⟩ 0), ⟨[]⟩⟩
noncomputable def o470_726 (_ : Params) : Obj := ⟨.none, none, (.fields ⟨[]⟩), ⟨[]⟩⟩
noncomputable def o471_727 (_ : Params) : Obj := ⟨(.type SL.s2766695959194262286x5), none, (.seq ⟨[(.str s21 891), (.str s40 892)]⟩ 0), ⟨[]⟩⟩
noncomputable def o472_728 (_ : Params) : Obj := ⟨(.type SL.s2766695959194262286x5), none, (.seq ⟨[]⟩ 0), ⟨[]⟩⟩
noncomputable def s444 : Str := ⟨⟨[nat_lit 68, nat_lit 101, nat_lit 97, nat_lit 100, nat_lit 75, nat_lit 101, nat_lit 121, nat_lit 46, nat_lit 95, nat_lit 95, nat_lit 105, nat_lit 110, nat_lit 105, nat_lit 116, nat_lit 95, nat_lit 95]⟩⟩
noncomputable def o473_729 (_ : Params) : Obj := ⟨.none, none, (.func ⟨s20, s444, a140, (.stmts (mAt 54 0)), c31, 0, [], .none, .none, .none, .none, none, .none, .none, 0⟩), ⟨[]⟩⟩
noncomputable def o474_730 (_ : Params) : Obj := ⟨(.type SL.s5856160107412720595x4), none, (.fields ⟨[(.str s20 888), (.str s444 889), (.str s402 890), (.int 307 0), (.int 2 0), (.int 0 0), (.int 0 0), (.int 3 0), (.ref 469), (.bool true), (.int 181 0), (.ref 470), .none, (.ref 471), (.ref 472), (.ref 473), (.int 893 0), (.int 307 0), (.str s402 894)]⟩), ⟨[]⟩⟩
noncomputable def o475_731 (_ : Params) : Obj := ⟨(.type SL.s7174869446012820540x8), none, (.func ⟨s20, s444, a140, (.stmts (mAt 54 0)), c31, 3, [], .none, .none, .none, (.str s148 855), none, (.ref 474), .none, 0⟩), ⟨[]⟩⟩
noncomputable def o476_732 (_ : Params) : Obj := ⟨(.type SL.s2766695959194262286x5), none, (.seq ⟨[(.str s40 896)]⟩ 0), ⟨[]⟩⟩
noncomputable def o477_733 (P : Params) : Obj := ⟨(.type SL.s14018661285674007319x4), none, (.dict ⟨[⟨(PySem.PyData.keyHash P s407), (.str s407 883), (.str s148 855)⟩, ⟨(PySem.PyData.keyHash P s409), (.str s409 887), (.int 305 886)⟩, ⟨(PySem.PyData.keyHash P s20), (.str s20 895), (.ref 475)⟩, ⟨(PySem.PyData.keyHash P s410), (.str s410 897), (.ref 476)⟩, ⟨(PySem.PyData.keyHash P s414), (.str s414 899), (.ref 479)⟩, ⟨(PySem.PyData.keyHash P s415), (.str s415 901), (.ref 480)⟩, ⟨(PySem.PyData.keyHash P s256), (.str s256 902), .none⟩]⟩ 4), ⟨[]⟩⟩
noncomputable def o478_734 (_ : Params) : Obj := ⟨(.type SL.s17162191345867700912x4), none, (.cls ⟨s156, [(.type SL.s2742458400755230247x6)], [(.ref 478), (.type SL.s2742458400755230247x6)], 477, s156, true, [], [], false, none, false⟩), ⟨[none, none, (some (.str s156 876)), (some (.str s156 884)), (some (.builtin SL.s11443829558043349243x14)), (some (.bool true))]⟩⟩
noncomputable def o479_735 (_ : Params) : Obj := ⟨(.type SL.s14755015743595814543x17), none, (.fields ⟨[(.str s414 898), (.ref 478), (.builtin SL.s6511155373996960695x17), (.builtin SL.s12411053484034534018x21)]⟩), ⟨[]⟩⟩
noncomputable def o480_736 (_ : Params) : Obj := ⟨(.type SL.s14755015743595814543x17), none, (.fields ⟨[(.str s415 900), (.ref 478), (.builtin SL.s10220274742760427390x26), .none]⟩), ⟨[]⟩⟩
noncomputable def o481_737 (_ : Params) : Obj := ⟨(.type SL.s4290257624100764138x5), none, (.fields ⟨[(.ref 478), (.ref 478), (.ref 478)]⟩), ⟨[]⟩⟩
noncomputable def o482_738 (_ : Params) : Obj := ⟨(.type SL.s11030030927630378310x26), none, (.fields ⟨[(.builtin SL.s4860613602091757760x24), (.ref 478)]⟩), ⟨[]⟩⟩
noncomputable def T5 (P : Params) : BT := (.node (o0_243 P) (.node (o1_244 P) (.node (o3_660 P) (.node (o7_250 P) (.node (o15_261 P) (.node (o31_277 P) (.node (o63_309 P) (.node (o127_375 P) (.node (o255_509 P) .nil .nil) (.node (o383_637 P) .nil .nil)) (.node (o191_442 P) (.node (o319_573 P) .nil .nil) (.node (o447_703 P) .nil .nil))) (.node (o95_343 P) (.node (o159_407 P) (.node (o287_541 P) .nil .nil) (.node (o415_671 P) .nil .nil)) (.node (o223_474 P) (.node (o351_605 P) .nil .nil) (.node (o479_735 P) .nil .nil)))) (.node (o47_293 P) (.node (o79_325 P) (.node (o143_391 P) (.node (o271_525 P) .nil .nil) (.node (o399_653 P) .nil .nil)) (.node (o207_458 P) (.node (o335_589 P) .nil .nil) (.node (o463_719 P) .nil .nil))) (.node (o111_359 P) (.node (o175_426 P) (.node (o303_557 P) .nil .nil) (.node (o431_687 P) .nil .nil)) (.node (o239_490 P) (.node (o367_621 P) .nil .nil) .nil)))) (.node (o23_269 P) (.node (o39_285 P) (.node (o71_317 P) (.node (o135_383 P) (.node (o263_517 P) .nil .nil) (.node (o391_645 P) .nil .nil)) (.node (o199_450 P) (.node (o327_581 P) .nil .nil) (.node (o455_711 P) .nil .nil))) (.node (o103_351 P) (.node (o167_418 P) (.node (o295_549 P) .nil .nil) (.node (o423_679 P) .nil .nil)) (.node (o231_482 P) (.node (o359_613 P) .nil .nil) .nil))) (.node (o55_301 P) (.node (o87_335 P) (.node (o151_399 P) (.node (o279_533 P) .nil .nil) (.node (o407_663 P) .nil .nil)) (.node (o215_466 P) (.node (o343_597 P) .nil .nil) (.node (o471_727 P) .nil .nil))) (.node (o119_367 P) (.node (o183_434 P) (.node (o311_565 P) .nil .nil) (.node (o439_695 P) .nil .nil)) (.node (o247_501 P) (.node (o375_629 P) .nil .nil) .nil))))) (.node (o11_254 P) (.node (o19_265 P) (.node (o35_281 P) (.node (o67_313 P) (.node (o131_379 P) (.node (o259_513 P) .nil .nil) (.node (o387_641 P) .nil .nil)) (.node (o195_446 P) (.node (o323_577 P) .nil .nil) (.node (o451_707 P) .nil .nil))) (.node (o99_347 P) (.node (o163_414 P) (.node (o291_545 P) .nil .nil) (.node (o419_675 P) .nil .nil)) (.node (o227_478 P) (.node (o355_609 P) .nil .nil) .nil))) (.node (o51_297 P) (.node (o83_329 P) (.node (o147_395 P) (.node (o275_529 P) .nil .nil) (.node (o403_657 P) .nil .nil)) (.node (o211_462 P) (.node (o339_593 P) .nil .nil) (.node (o467_723 P) .nil .nil))) (.node (o115_363 P) (.node (o179_430 P) (.node (o307_561 P) .nil .nil) (.node (o435_691 P) .nil .nil)) (.node (o243_494 P) (.node (o371_625 P) .nil .nil) .nil)))) (.node (o27_273 P) (.node (o43_289 P) (.node (o75_321 P) (.node (o139_387 P) (.node (o267_521 P) .nil .nil) (.node (o395_649 P) .nil .nil)) (.node (o203_454 P) (.node (o331_585 P) .nil .nil) (.node (o459_715 P) .nil .nil))) (.node (o107_355 P) (.node (o171_422 P) (.node (o299_553 P) .nil .nil) (.node (o427_683 P) .nil .nil)) (.node (o235_486 P) (.node (o363_617 P) .nil .nil) .nil))) (.node (o59_305 P) (.node (o91_339 P) (.node (o155_403 P) (.node (o283_537 P) .nil .nil) (.node (o411_667 P) .nil .nil)) (.node (o219_470 P) (.node (o347_601 P) .nil .nil) (.node (o475_731 P) .nil .nil))) (.node (o123_371 P) (.node (o187_438 P) (.node (o315_569 P) .nil .nil) (.node (o443_699 P) .nil .nil)) (.node (o251_505 P) (.node (o379_633 P) .nil .nil) .nil)))))) (.node (o5_248 P) (.node (o9_252 P) (.node (o17_263 P) (.node (o33_279 P) (.node (o65_311 P) (.node (o129_377 P) (.node (o257_511 P) .nil .nil) (.node (o385_639 P) .nil .nil)) (.node (o193_444 P) (.node (o321_575 P) .nil .nil) (.node (o449_705 P) .nil .nil))) (.node (o97_345 P) (.node (o161_409 P) (.node (o289_543 P) .nil .nil) (.node (o417_673 P) .nil .nil)) (.node (o225_476 P) (.node (o353_607 P) .nil .nil) (.node (o481_737 P) .nil .nil)))) (.node (o49_295 P) (.node (o81_327 P) (.node (o145_393 P) (.node (o273_527 P) .nil .nil) (.node (o401_655 P) .nil .nil)) (.node (o209_460 P) (.node (o337_591 P) .nil .nil) (.node (o465_721 P) .nil .nil))) (.node (o113_361 P) (.node (o177_428 P) (.node (o305_559 P) .nil .nil) (.node (o433_689 P) .nil .nil)) (.node (o241_492 P) (.node (o369_623 P) .nil .nil) .nil)))) (.node (o25_271 P) (.node (o41_287 P) (.node (o73_319 P) (.node (o137_385 P) (.node (o265_519 P) .nil .nil) (.node (o393_647 P) .nil .nil)) (.node (o201_452 P) (.node (o329_583 P) .nil .nil) (.node (o457_713 P) .nil .nil))) (.node (o105_353 P) (.node (o169_420 P) (.node (o297_551 P) .nil .nil) (.node (o425_681 P) .nil .nil)) (.node (o233_484 P) (.node (o361_615 P) .nil .nil) .nil))) (.node (o57_303 P) (.node (o89_337 P) (.node (o153_401 P) (.node (o281_535 P) .nil .nil) (.node (o409_665 P) .nil .nil)) (.node (o217_468 P) (.node (o345_599 P) .nil .nil) (.node (o473_729 P) .nil .nil))) (.node (o121_369 P) (.node (o185_436 P) (.node (o313_567 P) .nil .nil) (.node (o441_697 P) .nil .nil)) (.node (o249_503 P) (.node (o377_631 P) .nil .nil) .nil))))) (.node (o13_256 P) (.node (o21_267 P) (.node (o37_283 P) (.node (o69_315 P) (.node (o133_381 P) (.node (o261_515 P) .nil .nil) (.node (o389_643 P) .nil .nil)) (.node (o197_448 P) (.node (o325_579 P) .nil .nil) (.node (o453_709 P) .nil .nil))) (.node (o101_498 P) (.node (o165_416 P) (.node (o293_547 P) .nil .nil) (.node (o421_677 P) .nil .nil)) (.node (o229_480 P) (.node (o357_611 P) .nil .nil) .nil))) (.node (o53_299 P) (.node (o85_333 P) (.node (o149_397 P) (.node (o277_531 P) .nil .nil) (.node (o405_659 P) .nil .nil)) (.node (o213_464 P) (.node (o341_595 P) .nil .nil) (.node (o469_725 P) .nil .nil))) (.node (o117_365 P) (.node (o181_432 P) (.node (o309_563 P) .nil .nil) (.node (o437_693 P) .nil .nil)) (.node (o245_499 P) (.node (o373_627 P) .nil .nil) .nil)))) (.node (o29_275 P) (.node (o45_291 P) (.node (o77_323 P) (.node (o141_389 P) (.node (o269_523 P) .nil .nil) (.node (o397_651 P) .nil .nil)) (.node (o205_456 P) (.node (o333_587 P) .nil .nil) (.node (o461_717 P) .nil .nil))) (.node (o109_357 P) (.node (o173_424 P) (.node (o301_555 P) .nil .nil) (.node (o429_685 P) .nil .nil)) (.node (o237_488 P) (.node (o365_619 P) .nil .nil) .nil))) (.node (o61_307 P) (.node (o93_341 P) (.node (o157_405 P) (.node (o285_539 P) .nil .nil) (.node (o413_669 P) .nil .nil)) (.node (o221_472 P) (.node (o349_603 P) .nil .nil) (.node (o477_733 P) .nil .nil))) (.node (o125_373 P) (.node (o189_440 P) (.node (o317_571 P) .nil .nil) (.node (o445_701 P) .nil .nil)) (.node (o253_507 P) (.node (o381_635 P) .nil .nil) .nil))))))) (.node (o2_258 P) (.node (o4_247 P) (.node (o8_251 P) (.node (o16_262 P) (.node (o32_278 P) (.node (o64_310 P) (.node (o128_376 P) (.node (o256_510 P) .nil .nil) (.node (o384_638 P) .nil .nil)) (.node (o192_443 P) (.node (o320_574 P) .nil .nil) (.node (o448_704 P) .nil .nil))) (.node (o96_344 P) (.node (o160_408 P) (.node (o288_542 P) .nil .nil) (.node (o416_672 P) .nil .nil)) (.node (o224_475 P) (.node (o352_606 P) .nil .nil) (.node (o480_736 P) .nil .nil)))) (.node (o48_294 P) (.node (o80_326 P) (.node (o144_392 P) (.node (o272_526 P) .nil .nil) (.node (o400_654 P) .nil .nil)) (.node (o208_459 P) (.node (o336_590 P) .nil .nil) (.node (o464_720 P) .nil .nil))) (.node (o112_360 P) (.node (o176_427 P) (.node (o304_558 P) .nil .nil) (.node (o432_688 P) .nil .nil)) (.node (o240_491 P) (.node (o368_622 P) .nil .nil) .nil)))) (.node (o24_270 P) (.node (o40_286 P) (.node (o72_318 P) (.node (o136_384 P) (.node (o264_518 P) .nil .nil) (.node (o392_646 P) .nil .nil)) (.node (o200_451 P) (.node (o328_582 P) .nil .nil) (.node (o456_712 P) .nil .nil))) (.node (o104_352 P) (.node (o168_419 P) (.node (o296_550 P) .nil .nil) (.node (o424_680 P) .nil .nil)) (.node (o232_483 P) (.node (o360_614 P) .nil .nil) .nil))) (.node (o56_302 P) (.node (o88_336 P) (.node (o152_400 P) (.node (o280_534 P) .nil .nil) (.node (o408_664 P) .nil .nil)) (.node (o216_467 P) (.node (o344_598 P) .nil .nil) (.node (o472_728 P) .nil .nil))) (.node (o120_368 P) (.node (o184_435 P) (.node (o312_566 P) .nil .nil) (.node (o440_696 P) .nil .nil)) (.node (o248_502 P) (.node (o376_630 P) .nil .nil) .nil))))) (.node (o12_661 P) (.node (o20_266 P) (.node (o36_282 P) (.node (o68_314 P) (.node (o132_380 P) (.node (o260_514 P) .nil .nil) (.node (o388_642 P) .nil .nil)) (.node (o196_447 P) (.node (o324_578 P) .nil .nil) (.node (o452_708 P) .nil .nil))) (.node (o100_348 P) (.node (o164_415 P) (.node (o292_546 P) .nil .nil) (.node (o420_676 P) .nil .nil)) (.node (o228_479 P) (.node (o356_610 P) .nil .nil) .nil))) (.node (o52_298 P) (.node (o84_330 P) (.node (o148_396 P) (.node (o276_530 P) .nil .nil) (.node (o404_658 P) .nil .nil)) (.node (o212_463 P) (.node (o340_594 P) .nil .nil) (.node (o468_724 P) .nil .nil))) (.node (o116_364 P) (.node (o180_431 P) (.node (o308_562 P) .nil .nil) (.node (o436_692 P) .nil .nil)) (.node (o244_495 P) (.node (o372_626 P) .nil .nil) .nil)))) (.node (o28_274 P) (.node (o44_290 P) (.node (o76_322 P) (.node (o140_388 P) (.node (o268_522 P) .nil .nil) (.node (o396_650 P) .nil .nil)) (.node (o204_455 P) (.node (o332_586 P) .nil .nil) (.node (o460_716 P) .nil .nil))) (.node (o108_356 P) (.node (o172_423 P) (.node (o300_554 P) .nil .nil) (.node (o428_684 P) .nil .nil)) (.node (o236_487 P) (.node (o364_618 P) .nil .nil) .nil))) (.node (o60_306 P) (.node (o92_340 P) (.node (o156_404 P) (.node (o284_538 P) .nil .nil) (.node (o412_668 P) .nil .nil)) (.node (o220_471 P) (.node (o348_602 P) .nil .nil) (.node (o476_732 P) .nil .nil))) (.node (o124_372 P) (.node (o188_439 P) (.node (o316_570 P) .nil .nil) (.node (o444_700 P) .nil .nil)) (.node (o252_506 P) (.node (o380_634 P) .nil .nil) .nil)))))) (.node (o6_249 P) (.node (o10_253 P) (.node (o18_264 P) (.node (o34_280 P) (.node (o66_312 P) (.node (o130_378 P) (.node (o258_512 P) .nil .nil) (.node (o386_640 P) .nil .nil)) (.node (o194_445 P) (.node (o322_576 P) .nil .nil) (.node (o450_706 P) .nil .nil))) (.node (o98_346 P) (.node (o162_413 P) (.node (o290_544 P) .nil .nil) (.node (o418_674 P) .nil .nil)) (.node (o226_477 P) (.node (o354_608 P) .nil .nil) (.node (o482_738 P) .nil .nil)))) (.node (o50_296 P) (.node (o82_328 P) (.node (o146_394 P) (.node (o274_528 P) .nil .nil) (.node (o402_656 P) .nil .nil)) (.node (o210_461 P) (.node (o338_592 P) .nil .nil) (.node (o466_722 P) .nil .nil))) (.node (o114_362 P) (.node (o178_429 P) (.node (o306_560 P) .nil .nil) (.node (o434_690 P) .nil .nil)) (.node (o242_493 P) (.node (o370_624 P) .nil .nil) .nil)))) (.node (o26_272 P) (.node (o42_288 P) (.node (o74_320 P) (.node (o138_386 P) (.node (o266_520 P) .nil .nil) (.node (o394_648 P) .nil .nil)) (.node (o202_453 P) (.node (o330_584 P) .nil .nil) (.node (o458_714 P) .nil .nil))) (.node (o106_354 P) (.node (o170_421 P) (.node (o298_552 P) .nil .nil) (.node (o426_682 P) .nil .nil)) (.node (o234_485 P) (.node (o362_616 P) .nil .nil) .nil))) (.node (o58_304 P) (.node (o90_338 P) (.node (o154_402 P) (.node (o282_536 P) .nil .nil) (.node (o410_666 P) .nil .nil)) (.node (o218_469 P) (.node (o346_600 P) .nil .nil) (.node (o474_730 P) .nil .nil))) (.node (o122_370 P) (.node (o186_437 P) (.node (o314_568 P) .nil .nil) (.node (o442_698 P) .nil .nil)) (.node (o250_504 P) (.node (o378_632 P) .nil .nil) .nil))))) (.node (o14_257 P) (.node (o22_268 P) (.node (o38_284 P) (.node (o70_316 P) (.node (o134_382 P) (.node (o262_516 P) .nil .nil) (.node (o390_644 P) .nil .nil)) (.node (o198_449 P) (.node (o326_580 P) .nil .nil) (.node (o454_710 P) .nil .nil))) (.node (o102_350 P) (.node (o166_417 P) (.node (o294_548 P) .nil .nil) (.node (o422_678 P) .nil .nil)) (.node (o230_481 P) (.node (o358_612 P) .nil .nil) .nil))) (.node (o54_300 P) (.node (o86_334 P) (.node (o150_398 P) (.node (o278_532 P) .nil .nil) (.node (o406_662 P) .nil .nil)) (.node (o214_465 P) (.node (o342_596 P) .nil .nil) (.node (o470_726 P) .nil .nil))) (.node (o118_366 P) (.node (o182_433 P) (.node (o310_564 P) .nil .nil) (.node (o438_694 P) .nil .nil)) (.node (o246_500 P) (.node (o374_628 P) .nil .nil) .nil)))) (.node (o30_276 P) (.node (o46_292 P) (.node (o78_324 P) (.node (o142_390 P) (.node (o270_524 P) .nil .nil) (.node (o398_652 P) .nil .nil)) (.node (o206_457 P) (.node (o334_588 P) .nil .nil) (.node (o462_718 P) .nil .nil))) (.node (o110_358 P) (.node (o174_425 P) (.node (o302_556 P) .nil .nil) (.node (o430_686 P) .nil .nil)) (.node (o238_489 P) (.node (o366_620 P) .nil .nil) .nil))) (.node (o62_308 P) (.node (o94_342 P) (.node (o158_406 P) (.node (o286_540 P) .nil .nil) (.node (o414_670 P) .nil .nil)) (.node (o222_473 P) (.node (o350_604 P) .nil .nil) (.node (o478_734 P) .nil .nil))) (.node (o126_374 P) (.node (o190_441 P) (.node (o318_572 P) .nil .nil) (.node (o446_702 P) .nil .nil)) (.node (o254_508 P) (.node (o382_636 P) .nil .nil) .nil))))))))
noncomputable def o3_739 (P : Params) : Obj := ⟨(.type SL.s14018661285674007319x4), none, (.dict ⟨[⟨(PySem.PyData.keyHash P s2), (.str s2 165), (.str s148 855)⟩, ⟨(PySem.PyData.keyHash P s256), (.str s256 166), .none⟩, ⟨(PySem.PyData.keyHash P s257), (.str s257 167), .none⟩, ⟨(PySem.PyData.keyHash P s258), (.str s258 168), (.builtin SL.s7097527257260152453x26)⟩, ⟨(PySem.PyData.keyHash P s259), (.str s259 169), .none⟩, ⟨(PySem.PyData.keyHash P s399), (.str s399 170), (.ref 6)⟩, ⟨(PySem.PyData.keyHash P s400), (.str s400 171), (.ref 4)⟩, ⟨(PySem.PyData.keyHash P s401), (.str s401 173), (.str s402 172)⟩, ⟨(PySem.PyData.keyHash P s403), (.str s403 174), .none⟩, ⟨(PySem.PyData.keyHash P s0), (.str s0 193), (.ref 21)⟩, ⟨(PySem.PyData.keyHash P s4), (.str s4 203), (.ref 28)⟩, ⟨(PySem.PyData.keyHash P s9), (.str s9 208), (.int (-1) 207)⟩, ⟨(PySem.PyData.keyHash P s10), (.str s10 210), (.int 0 209)⟩, ⟨(PySem.PyData.keyHash P s11), (.str s11 212), (.int 1 211)⟩, ⟨(PySem.PyData.keyHash P s12), (.str s12 214), (.int 2 213)⟩, ⟨(PySem.PyData.keyHash P s13), (.str s13 216), (.int 3 215)⟩, ⟨(PySem.PyData.keyHash P s14), (.str s14 218), (.int 4 217)⟩, ⟨(PySem.PyData.keyHash P s15), (.str s15 220), (.int 5 219)⟩, ⟨(PySem.PyData.keyHash P s16), (.str s16 222), (.int 8 221)⟩, ⟨(PySem.PyData.keyHash P s17), (.str s17 224), (.int 10 223)⟩, ⟨(PySem.PyData.keyHash P s18), (.str s18 226), (.int 4294967295 225)⟩, ⟨(PySem.PyData.keyHash P s19), (.str s19 297), (.ref 60)⟩, ⟨(PySem.PyData.keyHash P s33), (.str s33 328), (.ref 81)⟩, ⟨(PySem.PyData.keyHash P s38), (.str s38 361), (.ref 101)⟩, ⟨(PySem.PyData.keyHash P s43), (.str s43 390), (.ref 122)⟩, ⟨(PySem.PyData.keyHash P s44), (.str s44 397), (.ref 133)⟩, ⟨(PySem.PyData.keyHash P s48), (.str s48 404), (.ref 140)⟩, ⟨(PySem.PyData.keyHash P s50), (.str s50 411), (.ref 147)⟩, ⟨(PySem.PyData.keyHash P s51), (.str s51 420), (.ref 154)⟩, ⟨(PySem.PyData.keyHash P s55), (.str s55 430), (.ref 161)⟩, ⟨(PySem.PyData.keyHash P s59), (.str s59 438), (.ref 168)⟩, ⟨(PySem.PyData.keyHash P s61), (.str s61 445), (.ref 175)⟩, ⟨(PySem.PyData.keyHash P s63), (.str s63 449), (.int 4 448)⟩, ⟨(PySem.PyData.keyHash P s64), (.str s64 508), (.ref 221)⟩, ⟨(PySem.PyData.keyHash P s72), (.str s72 517), (.ref 230)⟩, ⟨(PySem.PyData.keyHash P s74), (.str s74 526), (.ref 237)⟩, ⟨(PySem.PyData.keyHash P s75), (.str s75 534), (.ref 244)⟩, ⟨(PySem.PyData.keyHash P s77), (.str s77 544), (.ref 251)⟩, ⟨(PySem.PyData.keyHash P s80), (.str s80 548), (.int 0 547)⟩, ⟨(PySem.PyData.keyHash P s81), (.str s81 551), (.int (-1) 550)⟩, ⟨(PySem.PyData.keyHash P s82), (.str s82 553), (.int 20 552)⟩, ⟨(PySem.PyData.keyHash P s83), (.str s83 555), (.int 20 554)⟩, ⟨(PySem.PyData.keyHash P s84), (.str s84 608), (.ref 282)⟩, ⟨(PySem.PyData.keyHash P s94), (.str s94 769), (.ref 403)⟩, ⟨(PySem.PyData.keyHash P s127), (.str s127 814), (.ref 429)⟩, ⟨(PySem.PyData.keyHash P s138), (.str s138 823), (.ref 440)⟩, ⟨(PySem.PyData.keyHash P s139), (.str s139 832), (.ref 447)⟩, ⟨(PySem.PyData.keyHash P s141), (.str s141 841), (.ref 454)⟩, ⟨(PySem.PyData.keyHash P s143), (.str s143 854), (.ref 461)⟩, ⟨(PySem.PyData.keyHash P s149), (.str s149 858), (.int 26 857)⟩, ⟨(PySem.PyData.keyHash P s150), (.str s150 861), (.int 67108864 860)⟩, ⟨(PySem.PyData.keyHash P s151), (.str s151 865), (.int 4194304 864)⟩, ⟨(PySem.PyData.keyHash P s152), (.str s152 869), (.int 1048576 868)⟩, ⟨(PySem.PyData.keyHash P s153), (.str s153 871), (.int 56 870)⟩, ⟨(PySem.PyData.keyHash P s154), (.str s154 873), (.int 16 872)⟩, ⟨(PySem.PyData.keyHash P s155), (.str s155 875), (.int 32 874)⟩, ⟨(PySem.PyData.keyHash P s156), (.str s156 904), (.ref 478)⟩, ⟨(PySem.PyData.keyHash P s157), (.str s157 942), (.ref 506)⟩, ⟨(PySem.PyData.keyHash P s162), (.str s162 949), (.ref 517)⟩, ⟨(PySem.PyData.keyHash P s163), (.str s163 962), (.ref 524)⟩, ⟨(PySem.PyData.keyHash P s169), (.str s169 971), (.ref 531)⟩, ⟨(PySem.PyData.keyHash P s170), (.str s170 1277), (.ref 737)⟩]⟩ 62), ⟨[]⟩⟩
noncomputable def o12_740 (_ : Params) : Obj := ⟨.none, none, (.fields ⟨[(.int 1 0), (.int 0 0), (.ref 20), (.int 5 0), (.int 0 0), (.ref 27), (.int 19 0), (.int 0 0), (.ref 34), (.int 38 0), (.int 0 0), (.ref 70), (.int 44 0), (.int 0 0), (.ref 90), (.int 51 0), (.int 0 0), (.ref 111), (.int 55 0), (.int 0 0), (.ref 132), (.int 57 0), (.int 0 0), (.ref 139), (.int 71 0), (.int 0 0), (.ref 146), (.int 73 0), (.int 0 0), (.ref 153), (.int 82 0), (.int 0 0), (.ref 160), (.int 89 0), (.int 0 0), (.ref 167), (.int 95 0), (.int 0 0), (.ref 174), (.int 99 0), (.int 0 0), (.ref 181), (.int 128 0), (.int 0 0), (.ref 229), (.int 133 0), (.int 0 0), (.ref 236), (.int 138 0), (.int 0 0), (.ref 243), (.int 140 0), (.int 0 0), (.ref 250), (.int 152 0), (.int 0 0), (.ref 257), (.int 168 0), (.int 0 0), (.ref 292), (.int 253 0), (.int 0 0), (.ref 411), (.int 269 0), (.int 0 0), (.ref 439), (.int 277 0), (.int 0 0), (.ref 446), (.int 281 0), (.int 0 0), (.ref 453), (.int 287 0), (.int 0 0), (.ref 460), (.int 305 0), (.int 0 0), (.ref 467), (.int 309 0), (.int 0 0), (.ref 488), (.int 320 0), (.int 0 0), (.ref 516), (.int 322 0), (.int 0 0), (.ref 523), (.int 339 0), (.int 0 0), (.ref 530), (.int 345 0), (.int 0 0), (.ref 537)]⟩), ⟨[]⟩⟩
noncomputable def o101_741 (_ : Params) : Obj := ⟨(.type SL.s17162191345867700912x4), none, (.cls ⟨s38, [(.type SL.s2742458400755230247x6)], [(.ref 101), (.type SL.s2742458400755230247x6)], 100, s38, true, [], [(.ref 221), (.ref 403), (.ref 737)], false, none, false⟩), ⟨[none, none, (some (.str s38 329)), (some (.str s38 337)), (some (.builtin SL.s11443829558043349243x14)), (some (.bool true))]⟩⟩
noncomputable def o483_742 (_ : Params) : Obj := ⟨(.type SL.s2766695959194262286x5), none, (.seq ⟨[]⟩ 0), ⟨[]⟩⟩
noncomputable def o484_743 (_ : Params) : Obj := ⟨(.type SL.s11030030927630378310x26), none, (.fields ⟨[(.builtin SL.s10062305145149207511x16), (.type SL.s17162191345867700912x4)]⟩), ⟨[]⟩⟩
noncomputable def o485_744 (P : Params) : Obj := ⟨(.type SL.s14018661285674007319x4), none, (.dict ⟨[⟨(PySem.PyData.keyHash P s407), (.str s407 912), (.str s148 855)⟩, ⟨(PySem.PyData.keyHash P s408), (.str s408 914), (.str s157 913)⟩, ⟨(PySem.PyData.keyHash P s409), (.str s409 916), (.int 309 915)⟩, ⟨(PySem.PyData.keyHash P s20), (.str s20 923), (.ref 496)⟩, ⟨(PySem.PyData.keyHash P s158), (.str s158 931), (.ref 503)⟩, ⟨(PySem.PyData.keyHash P s410), (.str s410 935), (.ref 504)⟩]⟩ 6), ⟨[]⟩⟩
noncomputable def o486_745 (_ : Params) : Obj := ⟨(.type SL.s2766695959194262286x5), none, (.seq ⟨[]⟩ 0), ⟨[]⟩⟩
noncomputable def o487_746 (_ : Params) : Obj := ⟨.none, none, (.fields ⟨[(.int 311 0), (.int 4 0), (.ref 495), (.int 316 0), (.int 4 0), (.ref 502)]⟩), ⟨[]⟩⟩
noncomputable def o488_747 (_ : Params) : Obj := ⟨(.type SL.s5856160107412720595x4), none, (.fields ⟨[(.str s157 907), (.str s157 908), (.str s402 909), (.int 309 0), (.int 0 0), (.int 0 0), (.int 0 0), (.int 0 0), (.ref 486), (.bool false), (.int 181 0), (.ref 487), .none, .none, .none, .none, (.int 910 0), (.int 309 0), (.str s402 911)]⟩), ⟨[]⟩⟩
noncomputable def o489_748 (_ : Params) : Obj := ⟨(.type SL.s658472552662922059x5), none, .plain, ⟨[(some (.ref 488)), (some (.ref 3)), (some (.ref 485)), none, (some (.str s148 855)), none, (some (.ref 0))]⟩⟩
noncomputable def o490_749 (_ : Params) : Obj := ⟨(.type SL.s2766695959194262286x5), none, (.seq ⟨[]⟩ 0), ⟨[]⟩⟩
noncomputable def o491_750 (_ : Params) : Obj := ⟨.none, none, (.fields ⟨[]⟩), ⟨[]⟩⟩
noncomputable def o492_751 (_ : Params) : Obj := ⟨(.type SL.s2766695959194262286x5), none, (.seq ⟨[(.str s21 920)]⟩ 0), ⟨[]⟩⟩
noncomputable def o493_752 (_ : Params) : Obj := ⟨(.type SL.s2766695959194262286x5), none, (.seq ⟨[]⟩ 0), ⟨[]⟩⟩
noncomputable def s445 : Str := ⟨⟨[nat_lit 78, nat_lit 111, nat_lit 100, nat_lit 101, nat_lit 46, nat_lit 95, nat_lit 95, nat_lit 105, nat_lit 110, nat_lit 105, nat_lit 116, nat_lit 95, nat_lit 95]⟩⟩
noncomputable def o494_753 (_ : Params) : Obj := ⟨.none, none, (.func ⟨s20, s445, a142, (.stmts (mAt 55 0)), c21, 0, [], .none, .none, .none, .none, none, .none, .none, 0⟩), ⟨[]⟩⟩
noncomputable def o495_754 (_ : Params) : Obj := ⟨(.type SL.s5856160107412720595x4), none, (.fields ⟨[(.str s20 917), (.str s445 918), (.str s402 919), (.int 311 0), (.int 1 0), (.int 0 0), (.int 0 0), (.int 3 0), (.ref 490), (.bool true), (.int 181 0), (.ref 491), .none, (.ref 492), (.ref 493), (.ref 494), (.int 921 0), (.int 311 0), (.str s402 922)]⟩), ⟨[]⟩⟩
noncomputable def o496_755 (_ : Params) : Obj := ⟨(.type SL.s7174869446012820540x8), none, (.func ⟨s20, s445, a142, (.stmts (mAt 55 0)), c21, 3, [], .none, .none, .none, (.str s148 855), none, (.ref 495), .none, 0⟩), ⟨[]⟩⟩
noncomputable def o497_756 (_ : Params) : Obj := ⟨(.type SL.s2766695959194262286x5), none, (.seq ⟨[]⟩ 0), ⟨[]⟩⟩
noncomputable def o498_757 (_ : Params) : Obj := ⟨.none, none, (.fields ⟨[]⟩), ⟨[]⟩⟩
noncomputable def o499_758 (_ : Params) : Obj := ⟨(.type SL.s2766695959194262286x5), none, (.seq ⟨[(.str s21 927), (.str s159 928)]⟩ 0), ⟨[]⟩⟩
noncomputable def o500_759 (_ : Params) : Obj := ⟨(.type SL.s2766695959194262286x5), none, (.seq ⟨[]⟩ 0), ⟨[]⟩⟩
noncomputable def s446 : Str := ⟨⟨[nat_lit 78, nat_lit 111, nat_lit 100, nat_lit 101, nat_lit 46, nat_lit 109, nat_lit 111, nat_lit 118, nat_lit 101, nat_lit 100, nat_lit 95, nat_lit 116, nat_lit 111]⟩⟩
noncomputable def o501_760 (_ : Params) : Obj := ⟨.none, none, (.func ⟨s158, s446, a143, (.stmts (mAt 55 1)), c144, 0, [], .none, .none, .none, .none, none, .none, .none, 0⟩), ⟨[]⟩⟩
noncomputable def o502_761 (_ : Params) : Obj := ⟨(.type SL.s5856160107412720595x4), none, (.fields ⟨[(.str s158 924), (.str s446 925), (.str s402 926), (.int 316 0), (.int 2 0), (.int 0 0), (.int 0 0), (.int 3 0), (.ref 497), (.bool true), (.int 181 0), (.ref 498), .none, (.ref 499), (.ref 500), (.ref 501), (.int 929 0), (.int 316 0), (.str s402 930)]⟩), ⟨[]⟩⟩
noncomputable def o503_762 (_ : Params) : Obj := ⟨(.type SL.s7174869446012820540x8), none, (.func ⟨s158, s446, a143, (.stmts (mAt 55 1)), c144, 3, [], .none, .none, .none, (.str s148 855), none, (.ref 502), .none, 0⟩), ⟨[]⟩⟩
noncomputable def o504_763 (_ : Params) : Obj := ⟨(.type SL.s2766695959194262286x5), none, (.seq ⟨[(.str s160 932), (.str s161 933), (.str s35 934)]⟩ 0), ⟨[]⟩⟩
noncomputable def o505_764 (P : Params) : Obj := ⟨(.type SL.s14018661285674007319x4), none, (.dict ⟨[⟨(PySem.PyData.keyHash P s407), (.str s407 912), (.str s148 855)⟩, ⟨(PySem.PyData.keyHash P s409), (.str s409 916), (.int 309 915)⟩, ⟨(PySem.PyData.keyHash P s20), (.str s20 923), (.ref 496)⟩, ⟨(PySem.PyData.keyHash P s158), (.str s158 931), (.ref 503)⟩, ⟨(PySem.PyData.keyHash P s410), (.str s410 935), (.ref 504)⟩, ⟨(PySem.PyData.keyHash P s414), (.str s414 937), (.ref 507)⟩, ⟨(PySem.PyData.keyHash P s415), (.str s415 939), (.ref 508)⟩, ⟨(PySem.PyData.keyHash P s256), (.str s256 940), .none⟩]⟩ 4), ⟨[]⟩⟩
noncomputable def o506_765 (_ : Params) : Obj := ⟨(.type SL.s17162191345867700912x4), none, (.cls ⟨s157, [(.type SL.s2742458400755230247x6)], [(.ref 506), (.type SL.s2742458400755230247x6)], 505, s157, true, [], [], false, none, false⟩), ⟨[none, none, (some (.str s157 905)), (some (.str s157 913)), (some (.builtin SL.s11443829558043349243x14)), (some (.bool true))]⟩⟩
noncomputable def o507_766 (_ : Params) : Obj := ⟨(.type SL.s14755015743595814543x17), none, (.fields ⟨[(.str s414 936), (.ref 506), (.builtin SL.s6511155373996960695x17), (.builtin SL.s12411053484034534018x21)]⟩), ⟨[]⟩⟩
noncomputable def o508_767 (_ : Params) : Obj := ⟨(.type SL.s14755015743595814543x17), none, (.fields ⟨[(.str s415 938), (.ref 506), (.builtin SL.s10220274742760427390x26), .none]⟩), ⟨[]⟩⟩
noncomputable def o509_768 (_ : Params) : Obj := ⟨(.type SL.s4290257624100764138x5), none, (.fields ⟨[(.ref 506), (.ref 506), (.ref 506)]⟩), ⟨[]⟩⟩
noncomputable def o510_769 (_ : Params) : Obj := ⟨(.type SL.s11030030927630378310x26), none, (.fields ⟨[(.builtin SL.s4860613602091757760x24), (.ref 506)]⟩), ⟨[]⟩⟩
noncomputable def o511_770 (_ : Params) : Obj := ⟨(.type SL.s2766695959194262286x5), none, (.seq ⟨[]⟩ 0), ⟨[]⟩⟩
noncomputable def o512_771 (_ : Params) : Obj := ⟨.none, none, (.fields ⟨[]⟩), ⟨[]⟩⟩
noncomputable def o513_772 (_ : Params) : Obj := ⟨(.type SL.s2766695959194262286x5), none, (.seq ⟨[(.str s160 946)]⟩ 0), ⟨[]⟩⟩
noncomputable def o514_773 (_ : Params) : Obj := ⟨(.type SL.s2766695959194262286x5), none, (.seq ⟨[]⟩ 0), ⟨[]⟩⟩
noncomputable def o515_774 (_ : Params) : Obj := ⟨.none, none, (.func ⟨s162, s162, a146, (.stmts (bAt 56)), c147, 0, [], .none, .none, .none, .none, none, .none, .none, 0⟩), ⟨[]⟩⟩
noncomputable def o516_775 (_ : Params) : Obj := ⟨(.type SL.s5856160107412720595x4), none, (.fields ⟨[(.str s162 943), (.str s162 944), (.str s402 945), (.int 320 0), (.int 1 0), (.int 0 0), (.int 0 0), (.int 3 0), (.ref 511), (.bool true), (.int 181 0), (.ref 512), .none, (.ref 513), (.ref 514), (.ref 515), (.int 947 0), (.int 320 0), (.str s402 948)]⟩), ⟨[]⟩⟩
noncomputable def o517_776 (_ : Params) : Obj := ⟨(.type SL.s7174869446012820540x8), none, (.func ⟨s162, s162, a146, (.stmts (bAt 56)), c147, 3, [], .none, .none, .none, (.str s148 855), none, (.ref 516), .none, 0⟩), ⟨[]⟩⟩
noncomputable def o518_777 (_ : Params) : Obj := ⟨(.type SL.s2766695959194262286x5), none, (.seq ⟨[]⟩ 0), ⟨[]⟩⟩
noncomputable def o519_778 (_ : Params) : Obj := ⟨.none, none, (.fields ⟨[]⟩), ⟨[]⟩⟩
noncomputable def o520_779 (_ : Params) : Obj := ⟨(.type SL.s2766695959194262286x5), none, (.seq ⟨[(.str s164 953), (.str s88 954), (.str s165 955), (.str s166 956), (.str s41 957), (.str s167 958), (.str s168 959)]⟩ 0), ⟨[]⟩⟩
noncomputable def o521_780 (_ : Params) : Obj := ⟨(.type SL.s2766695959194262286x5), none, (.seq ⟨[]⟩ 0), ⟨[]⟩⟩
noncomputable def o522_781 (_ : Params) : Obj := ⟨.none, none, (.func ⟨s163, s163, a149, (.stmts (bAt 57)), c150, 0, [], .none, .none, .none, .none, none, .none, .none, 0⟩), ⟨[]⟩⟩
noncomputable def o523_782 (_ : Params) : Obj := ⟨(.type SL.s5856160107412720595x4), none, (.fields ⟨[(.str s163 950), (.str s163 951), (.str s402 952), (.int 322 0), (.int 2 0), (.int 0 0), (.int 0 0), (.int 3 0), (.ref 518), (.bool true), (.int 181 0), (.ref 519), .none, (.ref 520), (.ref 521), (.ref 522), (.int 960 0), (.int 322 0), (.str s402 961)]⟩), ⟨[]⟩⟩
noncomputable def o524_783 (_ : Params) : Obj := ⟨(.type SL.s7174869446012820540x8), none, (.func ⟨s163, s163, a149, (.stmts (bAt 57)), c150, 3, [], .none, .none, .none, (.str s148 855), none, (.ref 523), .none, 0⟩), ⟨[]⟩⟩
noncomputable def o525_784 (_ : Params) : Obj := ⟨(.type SL.s2766695959194262286x5), none, (.seq ⟨[]⟩ 0), ⟨[]⟩⟩
noncomputable def o526_785 (_ : Params) : Obj := ⟨.none, none, (.fields ⟨[]⟩), ⟨[]⟩⟩
noncomputable def o527_786 (_ : Params) : Obj := ⟨(.type SL.s2766695959194262286x5), none, (.seq ⟨[(.str s160 966), (.str s164 967), (.str s57 968)]⟩ 0), ⟨[]⟩⟩
noncomputable def o528_787 (_ : Params) : Obj := ⟨(.type SL.s2766695959194262286x5), none, (.seq ⟨[]⟩ 0), ⟨[]⟩⟩
noncomputable def o529_788 (_ : Params) : Obj := ⟨.none, none, (.func ⟨s169, s169, a152, (.stmts (bAt 58)), c153, 0, [], .none, .none, .none, .none, none, .none, .none, 0⟩), ⟨[]⟩⟩
noncomputable def o530_789 (_ : Params) : Obj := ⟨(.type SL.s5856160107412720595x4), none, (.fields ⟨[(.str s169 963), (.str s169 964), (.str s402 965), (.int 339 0), (.int 2 0), (.int 0 0), (.int 0 0), (.int 3 0), (.ref 525), (.bool true), (.int 181 0), (.ref 526), .none, (.ref 527), (.ref 528), (.ref 529), (.int 969 0), (.int 339 0), (.str s402 970)]⟩), ⟨[]⟩⟩
noncomputable def o531_790 (_ : Params) : Obj := ⟨(.type SL.s7174869446012820540x8), none, (.func ⟨s169, s169, a152, (.stmts (bAt 58)), c153, 3, [], .none, .none, .none, (.str s148 855), none, (.ref 530), .none, 0⟩), ⟨[]⟩⟩
noncomputable def o532_791 (_ : Params) : Obj := ⟨(.type SL.s2766695959194262286x5), none, (.seq ⟨[(.ref 101)]⟩ 0), ⟨[]⟩⟩
noncomputable def o533_792 (_ : Params) : Obj := ⟨(.type SL.s11030030927630378310x26), none, (.fields ⟨[(.builtin SL.s10062305145149207511x16), (.type SL.s17162191345867700912x4)]⟩), ⟨[]⟩⟩
noncomputable def o534_793 (P : Params) : Obj := ⟨(.type SL.s14018661285674007319x4), none, (.dict ⟨[⟨(PySem.PyData.keyHash P s407), (.str s407 979), (.str s148 855)⟩, ⟨(PySem.PyData.keyHash P s408), (.str s408 981), (.str s170 980)⟩, ⟨(PySem.PyData.keyHash P s409), (.str s409 983), (.int 345 982)⟩, ⟨(PySem.PyData.keyHash P s39), (.str s39 984), (.int 5 219)⟩, ⟨(PySem.PyData.keyHash P s20), (.str s20 997), (.ref 546)⟩, ⟨(PySem.PyData.keyHash P s173), (.str s173 1006), (.ref 553)⟩, ⟨(PySem.PyData.keyHash P s175), (.str s175 1015), (.ref 560)⟩, ⟨(PySem.PyData.keyHash P s176), (.str s176 1022), (.ref 567)⟩, ⟨(PySem.PyData.keyHash P s177), (.str s177 1031), (.ref 574)⟩, ⟨(PySem.PyData.keyHash P s178), (.str s178 1040), (.ref 581)⟩, ⟨(PySem.PyData.keyHash P s69), (.str s69 1049), (.ref 588)⟩, ⟨(PySem.PyData.keyHash P s70), (.str s70 1059), (.ref 595)⟩, ⟨(PySem.PyData.keyHash P s179), (.str s179 1069), (.ref 602)⟩, ⟨(PySem.PyData.keyHash P s180), (.str s180 1079), (.ref 609)⟩, ⟨(PySem.PyData.keyHash P s181), (.str s181 1091), (.ref 616)⟩, ⟨(PySem.PyData.keyHash P s183), (.str s183 1105), (.ref 623)⟩, ⟨(PySem.PyData.keyHash P s185), (.str s185 1116), (.ref 630)⟩, ⟨(PySem.PyData.keyHash P s186), (.str s186 1130), (.ref 637)⟩, ⟨(PySem.PyData.keyHash P s190), (.str s190 1141), (.ref 644)⟩, ⟨(PySem.PyData.keyHash P s193), (.str s193 1157), (.ref 651)⟩, ⟨(PySem.PyData.keyHash P s197), (.str s197 1172), (.ref 659)⟩, ⟨(PySem.PyData.keyHash P s202), (.str s202 1183), (.ref 666)⟩, ⟨(PySem.PyData.keyHash P s203), (.str s203 1189), (.ref 671)⟩, ⟨(PySem.PyData.keyHash P s205), (.str s205 1198), (.ref 678)⟩, ⟨(PySem.PyData.keyHash P s206), (.str s206 1206), (.ref 685)⟩, ⟨(PySem.PyData.keyHash P s207), (.str s207 1217), (.ref 692)⟩, ⟨(PySem.PyData.keyHash P s161), (.str s161 1228), (.ref 699)⟩, ⟨(PySem.PyData.keyHash P s208), (.str s208 1235), (.ref 706)⟩, ⟨(PySem.PyData.keyHash P s209), (.str s209 1243), (.ref 713)⟩, ⟨(PySem.PyData.keyHash P s210), (.str s210 1251), (.ref 720)⟩, ⟨(PySem.PyData.keyHash P s211), (.str s211 1258), (.ref 727)⟩, ⟨(PySem.PyData.keyHash P s212), (.str s212 1265), (.ref 734)⟩, ⟨(PySem.PyData.keyHash P s410), (.str s410 1274), (.ref 735)⟩]⟩ 33), ⟨[]⟩⟩
noncomputable def o535_794 (_ : Params) : Obj := ⟨(.type SL.s2766695959194262286x5), none, (.seq ⟨[]⟩ 0), ⟨[]⟩⟩
noncomputable def o536_795 (_ : Params) : Obj := ⟨.none, none, (.fields ⟨[(.int 348 0), (.int 4 0), (.ref 545), (.int 360 0), (.int 4 0), (.ref 552), (.int 370 0), (.int 4 0), (.ref 559), (.int 380 0), (.int 4 0), (.ref 566), (.int 387 0), (.int 4 0), (.ref 573), (.int 393 0), (.int 4 0), (.ref 580), (.int 397 0), (.int 4 0), (.ref 587), (.int 405 0), (.int 4 0), (.ref 594), (.int 411 0), (.int 4 0), (.ref 601), (.int 414 0), (.int 4 0), (.ref 608), (.int 417 0), (.int 4 0), (.ref 615), (.int 430 0), (.int 4 0), (.ref 622), (.int 460 0), (.int 4 0), (.ref 629), (.int 467 0), (.int 4 0), (.ref 636), (.int 485 0), (.int 4 0), (.ref 643), (.int 494 0), (.int 4 0), (.ref 650), (.int 504 0), (.int 4 0), (.ref 658), (.int 521 0), (.int 4 0), (.ref 665), (.int 528 0), (.int 4 0), (.ref 670), (.int 538 0), (.int 4 0), (.ref 677), (.int 541 0), (.int 4 0), (.ref 684), (.int 547 0), (.int 4 0), (.ref 691), (.int 563 0), (.int 4 0), (.ref 698), (.int 577 0), (.int 4 0), (.ref 705), (.int 580 0), (.int 4 0), (.ref 712), (.int 583 0), (.int 4 0), (.ref 719), (.int 586 0), (.int 4 0), (.ref 726), (.int 589 0), (.int 4 0), (.ref 733)]⟩), ⟨[]⟩⟩
noncomputable def o537_796 (_ : Params) : Obj := ⟨(.type SL.s5856160107412720595x4), none, (.fields ⟨[(.str s170 974), (.str s170 975), (.str s402 976), (.int 345 0), (.int 0 0), (.int 0 0), (.int 0 0), (.int 0 0), (.ref 535), (.bool false), (.int 181 0), (.ref 536), .none, .none, .none, .none, (.int 977 0), (.int 345 0), (.str s402 978)]⟩), ⟨[]⟩⟩
noncomputable def o538_797 (_ : Params) : Obj := ⟨(.type SL.s658472552662922059x5), none, .plain, ⟨[(some (.ref 537)), (some (.ref 3)), (some (.ref 534)), none, (some (.str s148 855)), none, (some (.ref 0))]⟩⟩
noncomputable def o539_798 (_ : Params) : Obj := ⟨(.type SL.s2766695959194262286x5), none, (.seq ⟨[(.int 0 985), (.int 0 986), (.int 0 987)]⟩ 0), ⟨[]⟩⟩
noncomputable def o540_799 (_ : Params) : Obj := ⟨(.type SL.s2766695959194262286x5), none, (.seq ⟨[]⟩ 0), ⟨[]⟩⟩
noncomputable def o541_800 (_ : Params) : Obj := ⟨.none, none, (.fields ⟨[]⟩), ⟨[]⟩⟩
noncomputable def o542_801 (_ : Params) : Obj := ⟨(.type SL.s2766695959194262286x5), none, (.seq ⟨[(.str s21 991), (.str s40 992), (.str s171 993), (.str s172 994)]⟩ 0), ⟨[]⟩⟩
noncomputable def o543_802 (_ : Params) : Obj := ⟨(.type SL.s2766695959194262286x5), none, (.seq ⟨[]⟩ 0), ⟨[]⟩⟩
noncomputable def s447 : Str := ⟨⟨[nat_lit 84, nat_lit 97, nat_lit 98, nat_lit 108, nat_lit 101, nat_lit 46, nat_lit 95, nat_lit 95, nat_lit 105, nat_lit 110, nat_lit 105, nat_lit 116, nat_lit 95, nat_lit 95]⟩⟩
noncomputable def o544_803 (_ : Params) : Obj := ⟨.none, none, (.func ⟨s20, s447, a155, (.stmts (mAt 59 1)), c156, 0, [], .none, .none, .none, .none, none, .none, .none, 0⟩), ⟨[]⟩⟩
noncomputable def o545_804 (_ : Params) : Obj := ⟨(.type SL.s5856160107412720595x4), none, (.fields ⟨[(.str s20 988), (.str s447 989), (.str s402 990), (.int 348 0), (.int 4 0), (.int 0 0), (.int 0 0), (.int 3 0), (.ref 540), (.bool true), (.int 181 0), (.ref 541), .none, (.ref 542), (.ref 543), (.ref 544), (.int 995 0), (.int 348 0), (.str s402 996)]⟩), ⟨[]⟩⟩
noncomputable def o546_805 (_ : Params) : Obj := ⟨(.type SL.s7174869446012820540x8), none, (.func ⟨s20, s447, a155, (.stmts (mAt 59 1)), c156, 3, [], (.ref 539), .none, .none, (.str s148 855), none, (.ref 545), .none, 0⟩), ⟨[]⟩⟩
noncomputable def o547_806 (_ : Params) : Obj := ⟨(.type SL.s2766695959194262286x5), none, (.seq ⟨[]⟩ 0), ⟨[]⟩⟩
noncomputable def o548_807 (_ : Params) : Obj := ⟨.none, none, (.fields ⟨[]⟩), ⟨[]⟩⟩
noncomputable def o549_808 (_ : Params) : Obj := ⟨(.type SL.s2766695959194262286x5), none, (.seq ⟨[(.str s21 1001), (.str s160 1002), (.str s174 1003)]⟩ 0), ⟨[]⟩⟩
noncomputable def o550_809 (_ : Params) : Obj := ⟨(.type SL.s2766695959194262286x5), none, (.seq ⟨[]⟩ 0), ⟨[]⟩⟩
noncomputable def s448 : Str := ⟨⟨[nat_lit 84, nat_lit 97, nat_lit 98, nat_lit 108, nat_lit 101, nat_lit 46, nat_lit 109, nat_lit 97, nat_lit 105, nat_lit 110, nat_lit 95, nat_lit 112, nat_lit 111, nat_lit 115, nat_lit 105, nat_lit 116, nat_lit 105, nat_lit 111, nat_lit 110]⟩⟩
noncomputable def o551_810 (_ : Params) : Obj := ⟨.none, none, (.func ⟨s173, s448, a157, (.stmts (mAt 59 2)), c158, 0, [], .none, .none, .none, .none, none, .none, .none, 0⟩), ⟨[]⟩⟩
noncomputable def o552_811 (_ : Params) : Obj := ⟨(.type SL.s5856160107412720595x4), none, (.fields ⟨[(.str s173 998), (.str s448 999), (.str s402 1000), (.int 360 0), (.int 2 0), (.int 0 0), (.int 0 0), (.int 3 0), (.ref 547), (.bool true), (.int 181 0), (.ref 548), .none, (.ref 549), (.ref 550), (.ref 551), (.int 1004 0), (.int 360 0), (.str s402 1005)]⟩), ⟨[]⟩⟩
noncomputable def o553_812 (_ : Params) : Obj := ⟨(.type SL.s7174869446012820540x8), none, (.func ⟨s173, s448, a157, (.stmts (mAt 59 2)), c158, 3, [], .none, .none, .none, (.str s148 855), none, (.ref 552), .none, 0⟩), ⟨[]⟩⟩
noncomputable def o554_813 (_ : Params) : Obj := ⟨(.type SL.s2766695959194262286x5), none, (.seq ⟨[]⟩ 0), ⟨[]⟩⟩
noncomputable def o555_814 (_ : Params) : Obj := ⟨.none, none, (.fields ⟨[]⟩), ⟨[]⟩⟩
noncomputable def o556_815 (_ : Params) : Obj := ⟨(.type SL.s2766695959194262286x5), none, (.seq ⟨[(.str s21 1010), (.str s160 1011), (.str s57 1012)]⟩ 0), ⟨[]⟩⟩
noncomputable def o557_816 (_ : Params) : Obj := ⟨(.type SL.s2766695959194262286x5), none, (.seq ⟨[]⟩ 0), ⟨[]⟩⟩
noncomputable def s449 : Str := ⟨⟨[nat_lit 84, nat_lit 97, nat_lit 98, nat_lit 108, nat_lit 101, nat_lit 46, nat_lit 102, nat_lit 105, nat_lit 110, nat_lit 100, nat_lit 95, nat_lit 110, nat_lit 111, nat_lit 100, nat_lit 101]⟩⟩
noncomputable def o558_817 (_ : Params) : Obj := ⟨.none, none, (.func ⟨s175, s449, a159, (.stmts (mAt 59 3)), c160, 0, [], .none, .none, .none, .none, none, .none, .none, 0⟩), ⟨[]⟩⟩
noncomputable def o559_818 (_ : Params) : Obj := ⟨(.type SL.s5856160107412720595x4), none, (.fields ⟨[(.str s175 1007), (.str s449 1008), (.str s402 1009), (.int 370 0), (.int 2 0), (.int 0 0), (.int 0 0), (.int 3 0), (.ref 554), (.bool true), (.int 181 0), (.ref 555), .none, (.ref 556), (.ref 557), (.ref 558), (.int 1013 0), (.int 370 0), (.str s402 1014)]⟩), ⟨[]⟩⟩
noncomputable def o560_819 (_ : Params) : Obj := ⟨(.type SL.s7174869446012820540x8), none, (.func ⟨s175, s449, a159, (.stmts (mAt 59 3)), c160, 3, [], .none, .none, .none, (.str s148 855), none, (.ref 559), .none, 0⟩), ⟨[]⟩⟩
noncomputable def o561_820 (_ : Params) : Obj := ⟨(.type SL.s2766695959194262286x5), none, (.seq ⟨[]⟩ 0), ⟨[]⟩⟩
noncomputable def o562_821 (_ : Params) : Obj := ⟨.none, none, (.fields ⟨[]⟩), ⟨[]⟩⟩
noncomputable def o563_822 (_ : Params) : Obj := ⟨(.type SL.s2766695959194262286x5), none, (.seq ⟨[(.str s21 1019)]⟩ 0), ⟨[]⟩⟩
noncomputable def o564_823 (_ : Params) : Obj := ⟨(.type SL.s2766695959194262286x5), none, (.seq ⟨[]⟩ 0), ⟨[]⟩⟩
noncomputable def s450 : Str := ⟨⟨[nat_lit 84, nat_lit 97, nat_lit 98, nat_lit 108, nat_lit 101, nat_lit 46, nat_lit 102, nat_lit 114, nat_lit 101, nat_lit 101, nat_lit 95, nat_lit 112, nat_lit 111, nat_lit 115, nat_lit 105, nat_lit 116, nat_lit 105, nat_lit 111, nat_lit 110]⟩⟩
noncomputable def o565_824 (_ : Params) : Obj := ⟨.none, none, (.func ⟨s176, s450, a161, (.stmts (mAt 59 4)), c21, 0, [], .none, .none, .none, .none, none, .none, .none, 0⟩), ⟨[]⟩⟩
noncomputable def o566_825 (_ : Params) : Obj := ⟨(.type SL.s5856160107412720595x4), none, (.fields ⟨[(.str s176 1016), (.str s450 1017), (.str s402 1018), (.int 380 0), (.int 1 0), (.int 0 0), (.int 0 0), (.int 3 0), (.ref 561), (.bool true), (.int 181 0), (.ref 562), .none, (.ref 563), (.ref 564), (.ref 565), (.int 1020 0), (.int 380 0), (.str s402 1021)]⟩), ⟨[]⟩⟩
noncomputable def o567_826 (_ : Params) : Obj := ⟨(.type SL.s7174869446012820540x8), none, (.func ⟨s176, s450, a161, (.stmts (mAt 59 4)), c21, 3, [], .none, .none, .none, (.str s148 855), none, (.ref 566), .none, 0⟩), ⟨[]⟩⟩
noncomputable def o568_827 (_ : Params) : Obj := ⟨(.type SL.s2766695959194262286x5), none, (.seq ⟨[]⟩ 0), ⟨[]⟩⟩
noncomputable def o569_828 (_ : Params) : Obj := ⟨.none, none, (.fields ⟨[]⟩), ⟨[]⟩⟩
noncomputable def o570_829 (_ : Params) : Obj := ⟨(.type SL.s2766695959194262286x5), none, (.seq ⟨[(.str s21 1026), (.str s60 1027), (.str s57 1028)]⟩ 0), ⟨[]⟩⟩
noncomputable def o571_830 (_ : Params) : Obj := ⟨(.type SL.s2766695959194262286x5), none, (.seq ⟨[]⟩ 0), ⟨[]⟩⟩
noncomputable def s451 : Str := ⟨⟨[nat_lit 84, nat_lit 97, nat_lit 98, nat_lit 108, nat_lit 101, nat_lit 46, nat_lit 103, nat_lit 101, nat_lit 116, nat_lit 95, nat_lit 105, nat_lit 110, nat_lit 116]⟩⟩
noncomputable def o572_831 (_ : Params) : Obj := ⟨.none, none, (.func ⟨s177, s451, a162, (.stmts (mAt 59 5)), c163, 0, [], .none, .none, .none, .none, none, .none, .none, 0⟩), ⟨[]⟩⟩
noncomputable def o573_832 (_ : Params) : Obj := ⟨(.type SL.s5856160107412720595x4), none, (.fields ⟨[(.str s177 1023), (.str s451 1024), (.str s402 1025), (.int 387 0), (.int 2 0), (.int 0 0), (.int 0 0), (.int 3 0), (.ref 568), (.bool true), (.int 181 0), (.ref 569), .none, (.ref 570), (.ref 571), (.ref 572), (.int 1029 0), (.int 387 0), (.str s402 1030)]⟩), ⟨[]⟩⟩
noncomputable def o574_833 (_ : Params) : Obj := ⟨(.type SL.s7174869446012820540x8), none, (.func ⟨s177, s451, a162, (.stmts (mAt 59 5)), c163, 3, [], .none, .none, .none, (.str s148 855), none, (.ref 573), .none, 0⟩), ⟨[]⟩⟩
noncomputable def o575_834 (_ : Params) : Obj := ⟨(.type SL.s2766695959194262286x5), none, (.seq ⟨[]⟩ 0), ⟨[]⟩⟩
noncomputable def o576_835 (_ : Params) : Obj := ⟨.none, none, (.fields ⟨[]⟩), ⟨[]⟩⟩
noncomputable def o577_836 (_ : Params) : Obj := ⟨(.type SL.s2766695959194262286x5), none, (.seq ⟨[(.str s21 1035), (.str s30 1036), (.str s57 1037)]⟩ 0), ⟨[]⟩⟩
noncomputable def o578_837 (_ : Params) : Obj := ⟨(.type SL.s2766695959194262286x5), none, (.seq ⟨[]⟩ 0), ⟨[]⟩⟩
noncomputable def s452 : Str := ⟨⟨[nat_lit 84, nat_lit 97, nat_lit 98, nat_lit 108, nat_lit 101, nat_lit 46, nat_lit 103, nat_lit 101, nat_lit 116, nat_lit 95, nat_lit 116, nat_lit 101, nat_lit 120, nat_lit 116]⟩⟩
noncomputable def o579_838 (_ : Params) : Obj := ⟨.none, none, (.func ⟨s178, s452, a164, (.stmts (mAt 59 6)), c165, 0, [], .none, .none, .none, .none, none, .none, .none, 0⟩), ⟨[]⟩⟩
noncomputable def o580_839 (_ : Params) : Obj := ⟨(.type SL.s5856160107412720595x4), none, (.fields ⟨[(.str s178 1032), (.str s452 1033), (.str s402 1034), (.int 393 0), (.int 2 0), (.int 0 0), (.int 0 0), (.int 3 0), (.ref 575), (.bool true), (.int 181 0), (.ref 576), .none, (.ref 577), (.ref 578), (.ref 579), (.int 1038 0), (.int 393 0), (.str s402 1039)]⟩), ⟨[]⟩⟩
noncomputable def o581_840 (_ : Params) : Obj := ⟨(.type SL.s7174869446012820540x8), none, (.func ⟨s178, s452, a164, (.stmts (mAt 59 6)), c165, 3, [], .none, .none, .none, (.str s148 855), none, (.ref 580), .none, 0⟩), ⟨[]⟩⟩
noncomputable def o582_841 (_ : Params) : Obj := ⟨(.type SL.s2766695959194262286x5), none, (.seq ⟨[]⟩ 0), ⟨[]⟩⟩
noncomputable def o583_842 (_ : Params) : Obj := ⟨.none, none, (.fields ⟨[]⟩), ⟨[]⟩⟩
noncomputable def o584_843 (_ : Params) : Obj := ⟨(.type SL.s2766695959194262286x5), none, (.seq ⟨[(.str s21 1044), (.str s160 1045), (.str s57 1046)]⟩ 0), ⟨[]⟩⟩
noncomputable def o585_844 (_ : Params) : Obj := ⟨(.type SL.s2766695959194262286x5), none, (.seq ⟨[]⟩ 0), ⟨[]⟩⟩
noncomputable def s453 : Str := ⟨⟨[nat_lit 84, nat_lit 97, nat_lit 98, nat_lit 108, nat_lit 101, nat_lit 46, nat_lit 103, nat_lit 101, nat_lit 116]⟩⟩
noncomputable def o586_845 (_ : Params) : Obj := ⟨.none, none, (.func ⟨s69, s453, a166, (.stmts (mAt 59 7)), c167, 0, [], .none, .none, .none, .none, none, .none, .none, 0⟩), ⟨[]⟩⟩
noncomputable def o587_846 (_ : Params) : Obj := ⟨(.type SL.s5856160107412720595x4), none, (.fields ⟨[(.str s69 1041), (.str s453 1042), (.str s402 1043), (.int 397 0), (.int 2 0), (.int 0 0), (.int 0 0), (.int 3 0), (.ref 582), (.bool true), (.int 181 0), (.ref 583), .none, (.ref 584), (.ref 585), (.ref 586), (.int 1047 0), (.int 397 0), (.str s402 1048)]⟩), ⟨[]⟩⟩
noncomputable def o588_847 (_ : Params) : Obj := ⟨(.type SL.s7174869446012820540x8), none, (.func ⟨s69, s453, a166, (.stmts (mAt 59 7)), c167, 3, [], .none, .none, .none, (.str s148 855), none, (.ref 587), .none, 0⟩), ⟨[]⟩⟩
noncomputable def o589_848 (_ : Params) : Obj := ⟨(.type SL.s2766695959194262286x5), none, (.seq ⟨[]⟩ 0), ⟨[]⟩⟩
noncomputable def o590_849 (_ : Params) : Obj := ⟨.none, none, (.fields ⟨[]⟩), ⟨[]⟩⟩
noncomputable def o591_850 (_ : Params) : Obj := ⟨(.type SL.s2766695959194262286x5), none, (.seq ⟨[(.str s21 1053), (.str s160 1054), (.str s35 1055), (.str s130 1056)]⟩ 0), ⟨[]⟩⟩
noncomputable def o592_851 (_ : Params) : Obj := ⟨(.type SL.s2766695959194262286x5), none, (.seq ⟨[]⟩ 0), ⟨[]⟩⟩
noncomputable def s454 : Str := ⟨⟨[nat_lit 84, nat_lit 97, nat_lit 98, nat_lit 108, nat_lit 101, nat_lit 46, nat_lit 115, nat_lit 101, nat_lit 116]⟩⟩
noncomputable def o593_852 (_ : Params) : Obj := ⟨.none, none, (.func ⟨s70, s454, a168, (.stmts (mAt 59 8)), c169, 0, [], .none, .none, .none, .none, none, .none, .none, 0⟩), ⟨[]⟩⟩
noncomputable def o594_853 (_ : Params) : Obj := ⟨(.type SL.s5856160107412720595x4), none, (.fields ⟨[(.str s70 1050), (.str s454 1051), (.str s402 1052), (.int 405 0), (.int 4 0), (.int 0 0), (.int 0 0), (.int 3 0), (.ref 589), (.bool true), (.int 181 0), (.ref 590), .none, (.ref 591), (.ref 592), (.ref 593), (.int 1057 0), (.int 405 0), (.str s402 1058)]⟩), ⟨[]⟩⟩
noncomputable def o595_854 (_ : Params) : Obj := ⟨(.type SL.s7174869446012820540x8), none, (.func ⟨s70, s454, a168, (.stmts (mAt 59 8)), c169, 3, [], .none, .none, .none, (.str s148 855), none, (.ref 594), .none, 0⟩), ⟨[]⟩⟩
noncomputable def o596_855 (_ : Params) : Obj := ⟨(.type SL.s2766695959194262286x5), none, (.seq ⟨[]⟩ 0), ⟨[]⟩⟩
noncomputable def o597_856 (_ : Params) : Obj := ⟨.none, none, (.fields ⟨[]⟩), ⟨[]⟩⟩
noncomputable def o598_857 (_ : Params) : Obj := ⟨(.type SL.s2766695959194262286x5), none, (.seq ⟨[(.str s21 1063), (.str s60 1064), (.str s35 1065), (.str s130 1066)]⟩ 0), ⟨[]⟩⟩
noncomputable def o599_858 (_ : Params) : Obj := ⟨(.type SL.s2766695959194262286x5), none, (.seq ⟨[]⟩ 0), ⟨[]⟩⟩
noncomputable def s455 : Str := ⟨⟨[nat_lit 84, nat_lit 97, nat_lit 98, nat_lit 108, nat_lit 101, nat_lit 46, nat_lit 115, nat_lit 101, nat_lit 116, nat_lit 95, nat_lit 105, nat_lit 110, nat_lit 116]⟩⟩
noncomputable def o600_859 (_ : Params) : Obj := ⟨.none, none, (.func ⟨s179, s455, a170, (.stmts (mAt 59 9)), c171, 0, [], .none, .none, .none, .none, none, .none, .none, 0⟩), ⟨[]⟩⟩
noncomputable def o601_860 (_ : Params) : Obj := ⟨(.type SL.s5856160107412720595x4), none, (.fields ⟨[(.str s179 1060), (.str s455 1061), (.str s402 1062), (.int 411 0), (.int 4 0), (.int 0 0), (.int 0 0), (.int 3 0), (.ref 596), (.bool true), (.int 181 0), (.ref 597), .none, (.ref 598), (.ref 599), (.ref 600), (.int 1067 0), (.int 411 0), (.str s402 1068)]⟩), ⟨[]⟩⟩
noncomputable def o602_861 (_ : Params) : Obj := ⟨(.type SL.s7174869446012820540x8), none, (.func ⟨s179, s455, a170, (.stmts (mAt 59 9)), c171, 3, [], .none, .none, .none, (.str s148 855), none, (.ref 601), .none, 0⟩), ⟨[]⟩⟩
noncomputable def o603_862 (_ : Params) : Obj := ⟨(.type SL.s2766695959194262286x5), none, (.seq ⟨[]⟩ 0), ⟨[]⟩⟩
noncomputable def o604_863 (_ : Params) : Obj := ⟨.none, none, (.fields ⟨[]⟩), ⟨[]⟩⟩
noncomputable def o605_864 (_ : Params) : Obj := ⟨(.type SL.s2766695959194262286x5), none, (.seq ⟨[(.str s21 1073), (.str s30 1074), (.str s35 1075), (.str s130 1076)]⟩ 0), ⟨[]⟩⟩
noncomputable def o606_865 (_ : Params) : Obj := ⟨(.type SL.s2766695959194262286x5), none, (.seq ⟨[]⟩ 0), ⟨[]⟩⟩
noncomputable def s456 : Str := ⟨⟨[nat_lit 84, nat_lit 97, nat_lit 98, nat_lit 108, nat_lit 101, nat_lit 46, nat_lit 115, nat_lit 101, nat_lit 116, nat_lit 95, nat_lit 116, nat_lit 101, nat_lit 120, nat_lit 116]⟩⟩
noncomputable def o607_866 (_ : Params) : Obj := ⟨.none, none, (.func ⟨s180, s456, a172, (.stmts (mAt 59 10)), c173, 0, [], .none, .none, .none, .none, none, .none, .none, 0⟩), ⟨[]⟩⟩
noncomputable def o608_867 (_ : Params) : Obj := ⟨(.type SL.s5856160107412720595x4), none, (.fields ⟨[(.str s180 1070), (.str s456 1071), (.str s402 1072), (.int 414 0), (.int 4 0), (.int 0 0), (.int 0 0), (.int 3 0), (.ref 603), (.bool true), (.int 181 0), (.ref 604), .none, (.ref 605), (.ref 606), (.ref 607), (.int 1077 0), (.int 414 0), (.str s402 1078)]⟩), ⟨[]⟩⟩
noncomputable def o609_868 (_ : Params) : Obj := ⟨(.type SL.s7174869446012820540x8), none, (.func ⟨s180, s456, a172, (.stmts (mAt 59 10)), c173, 3, [], .none, .none, .none, (.str s148 855), none, (.ref 608), .none, 0⟩), ⟨[]⟩⟩
noncomputable def o610_869 (_ : Params) : Obj := ⟨(.type SL.s2766695959194262286x5), none, (.seq ⟨[]⟩ 0), ⟨[]⟩⟩
noncomputable def o611_870 (_ : Params) : Obj := ⟨.none, none, (.fields ⟨[]⟩), ⟨[]⟩⟩
noncomputable def o612_871 (_ : Params) : Obj := ⟨(.type SL.s2766695959194262286x5), none, (.seq ⟨[(.str s21 1083), (.str s160 1084), (.str s35 1085), (.str s130 1086), (.str s57 1087), (.str s182 1088)]⟩ 0), ⟨[]⟩⟩
noncomputable def o613_872 (_ : Params) : Obj := ⟨(.type SL.s2766695959194262286x5), none, (.seq ⟨[]⟩ 0), ⟨[]⟩⟩
noncomputable def s457 : Str := ⟨⟨[nat_lit 84, nat_lit 97, nat_lit 98, nat_lit 108, nat_lit 101, nat_lit 46, nat_lit 112, nat_lit 117, nat_lit 116]⟩⟩
noncomputable def o614_873 (_ : Params) : Obj := ⟨.none, none, (.func ⟨s181, s457, a174, (.stmts (mAt 59 11)), c175, 0, [], .none, .none, .none, .none, none, .none, .none, 0⟩), ⟨[]⟩⟩
noncomputable def o615_874 (_ : Params) : Obj := ⟨(.type SL.s5856160107412720595x4), none, (.fields ⟨[(.str s181 1080), (.str s457 1081), (.str s402 1082), (.int 417 0), (.int 4 0), (.int 0 0), (.int 0 0), (.int 3 0), (.ref 610), (.bool true), (.int 181 0), (.ref 611), .none, (.ref 612), (.ref 613), (.ref 614), (.int 1089 0), (.int 417 0), (.str s402 1090)]⟩), ⟨[]⟩⟩
noncomputable def o616_875 (_ : Params) : Obj := ⟨(.type SL.s7174869446012820540x8), none, (.func ⟨s181, s457, a174, (.stmts (mAt 59 11)), c175, 3, [], .none, .none, .none, (.str s148 855), none, (.ref 615), .none, 0⟩), ⟨[]⟩⟩
noncomputable def o617_876 (_ : Params) : Obj := ⟨(.type SL.s2766695959194262286x5), none, (.seq ⟨[]⟩ 0), ⟨[]⟩⟩
noncomputable def o618_877 (_ : Params) : Obj := ⟨.none, none, (.fields ⟨[]⟩), ⟨[]⟩⟩
noncomputable def o619_878 (_ : Params) : Obj := ⟨(.type SL.s2766695959194262286x5), none, (.seq ⟨[(.str s21 1095), (.str s160 1096), (.str s35 1097), (.str s130 1098), (.str s132 1099), (.str s184 1100), (.str s182 1101), (.str s159 1102)]⟩ 0), ⟨[]⟩⟩
noncomputable def o620_879 (_ : Params) : Obj := ⟨(.type SL.s2766695959194262286x5), none, (.seq ⟨[]⟩ 0), ⟨[]⟩⟩
noncomputable def s458 : Str := ⟨⟨[nat_lit 84, nat_lit 97, nat_lit 98, nat_lit 108, nat_lit 101, nat_lit 46, nat_lit 110, nat_lit 101, nat_lit 119, nat_lit 95, nat_lit 107, nat_lit 101, nat_lit 121]⟩⟩
noncomputable def o621_880 (_ : Params) : Obj := ⟨.none, none, (.func ⟨s183, s458, a176, (.stmts (mAt 59 12)), c177, 0, [], .none, .none, .none, .none, none, .none, .none, 0⟩), ⟨[]⟩⟩
noncomputable def o622_881 (_ : Params) : Obj := ⟨(.type SL.s5856160107412720595x4), none, (.fields ⟨[(.str s183 1092), (.str s458 1093), (.str s402 1094), (.int 430 0), (.int 4 0), (.int 0 0), (.int 0 0), (.int 3 0), (.ref 617), (.bool true), (.int 181 0), (.ref 618), .none, (.ref 619), (.ref 620), (.ref 621), (.int 1103 0), (.int 430 0), (.str s402 1104)]⟩), ⟨[]⟩⟩
noncomputable def o623_882 (_ : Params) : Obj := ⟨(.type SL.s7174869446012820540x8), none, (.func ⟨s183, s458, a176, (.stmts (mAt 59 12)), c177, 3, [], .none, .none, .none, (.str s148 855), none, (.ref 622), .none, 0⟩), ⟨[]⟩⟩
noncomputable def o624_883 (_ : Params) : Obj := ⟨(.type SL.s2766695959194262286x5), none, (.seq ⟨[]⟩ 0), ⟨[]⟩⟩
noncomputable def o625_884 (_ : Params) : Obj := ⟨.none, none, (.fields ⟨[]⟩), ⟨[]⟩⟩
noncomputable def o626_885 (_ : Params) : Obj := ⟨(.type SL.s2766695959194262286x5), none, (.seq ⟨[(.str s21 1109), (.str s160 1110), (.str s35 1111), (.str s130 1112), (.str s57 1113)]⟩ 0), ⟨[]⟩⟩
noncomputable def o627_886 (_ : Params) : Obj := ⟨(.type SL.s2766695959194262286x5), none, (.seq ⟨[]⟩ 0), ⟨[]⟩⟩
noncomputable def s459 : Str := ⟨⟨[nat_lit 84, nat_lit 97, nat_lit 98, nat_lit 108, nat_lit 101, nat_lit 46, nat_lit 112, nat_lit 117, nat_lit 116, nat_lit 95, nat_lit 97, nat_lit 103, nat_lit 97, nat_lit 105, nat_lit 110]⟩⟩
noncomputable def o628_887 (_ : Params) : Obj := ⟨.none, none, (.func ⟨s185, s459, a178, (.stmts (mAt 59 13)), c179, 0, [], .none, .none, .none, .none, none, .none, .none, 0⟩), ⟨[]⟩⟩
noncomputable def o629_888 (_ : Params) : Obj := ⟨(.type SL.s5856160107412720595x4), none, (.fields ⟨[(.str s185 1106), (.str s459 1107), (.str s402 1108), (.int 460 0), (.int 4 0), (.int 0 0), (.int 0 0), (.int 3 0), (.ref 624), (.bool true), (.int 181 0), (.ref 625), .none, (.ref 626), (.ref 627), (.ref 628), (.int 1114 0), (.int 460 0), (.str s402 1115)]⟩), ⟨[]⟩⟩
noncomputable def o630_889 (_ : Params) : Obj := ⟨(.type SL.s7174869446012820540x8), none, (.func ⟨s185, s459, a178, (.stmts (mAt 59 13)), c179, 3, [], .none, .none, .none, (.str s148 855), none, (.ref 629), .none, 0⟩), ⟨[]⟩⟩
noncomputable def o631_890 (_ : Params) : Obj := ⟨(.type SL.s2766695959194262286x5), none, (.seq ⟨[]⟩ 0), ⟨[]⟩⟩
noncomputable def o632_891 (_ : Params) : Obj := ⟨.none, none, (.fields ⟨[]⟩), ⟨[]⟩⟩
noncomputable def o633_892 (_ : Params) : Obj := ⟨(.type SL.s2766695959194262286x5), none, (.seq ⟨[(.str s21 1120), (.str s164 1121), (.str s187 1122), (.str s57 1123), (.str s188 1124), (.str s58 1125), (.str s105 1126), (.str s189 1127)]⟩ 0), ⟨[]⟩⟩
noncomputable def o634_893 (_ : Params) : Obj := ⟨(.type SL.s2766695959194262286x5), none, (.seq ⟨[]⟩ 0), ⟨[]⟩⟩
noncomputable def s460 : Str := ⟨⟨[nat_lit 84, nat_lit 97, nat_lit 98, nat_lit 108, nat_lit 101, nat_lit 46, nat_lit 99, nat_lit 111, nat_lit 117, nat_lit 110, nat_lit 116, nat_lit 95, nat_lit 97, nat_lit 114, nat_lit 114, nat_lit 97, nat_lit 121]⟩⟩
noncomputable def o635_894 (_ : Params) : Obj := ⟨.none, none, (.func ⟨s186, s460, a180, (.stmts (mAt 59 14)), c181, 0, [], .none, .none, .none, .none, none, .none, .none, 0⟩), ⟨[]⟩⟩
noncomputable def o636_895 (_ : Params) : Obj := ⟨(.type SL.s5856160107412720595x4), none, (.fields ⟨[(.str s186 1117), (.str s460 1118), (.str s402 1119), (.int 467 0), (.int 2 0), (.int 0 0), (.int 0 0), (.int 3 0), (.ref 631), (.bool true), (.int 181 0), (.ref 632), .none, (.ref 633), (.ref 634), (.ref 635), (.int 1128 0), (.int 467 0), (.str s402 1129)]⟩), ⟨[]⟩⟩
noncomputable def o637_896 (_ : Params) : Obj := ⟨(.type SL.s7174869446012820540x8), none, (.func ⟨s186, s460, a180, (.stmts (mAt 59 14)), c181, 3, [], .none, .none, .none, (.str s148 855), none, (.ref 636), .none, 0⟩), ⟨[]⟩⟩
noncomputable def o638_897 (_ : Params) : Obj := ⟨(.type SL.s2766695959194262286x5), none, (.seq ⟨[]⟩ 0), ⟨[]⟩⟩
noncomputable def o639_898 (_ : Params) : Obj := ⟨.none, none, (.fields ⟨[]⟩), ⟨[]⟩⟩
noncomputable def o640_899 (_ : Params) : Obj := ⟨(.type SL.s2766695959194262286x5), none, (.seq ⟨[(.str s21 1134), (.str s164 1135), (.str s187 1136), (.str s191 1137), (.str s192 1138)]⟩ 0), ⟨[]⟩⟩
noncomputable def o641_900 (_ : Params) : Obj := ⟨(.type SL.s2766695959194262286x5), none, (.seq ⟨[]⟩ 0), ⟨[]⟩⟩
noncomputable def s461 : Str := ⟨⟨[nat_lit 84, nat_lit 97, nat_lit 98, nat_lit 108, nat_lit 101, nat_lit 46, nat_lit 99, nat_lit 111, nat_lit 117, nat_lit 110, nat_lit 116, nat_lit 95, nat_lit 110, nat_lit 111, nat_lit 100, nat_lit 101, nat_lit 115]⟩⟩
noncomputable def o642_901 (_ : Params) : Obj := ⟨.none, none, (.func ⟨s190, s461, a182, (.stmts (mAt 59 15)), c183, 0, [], .none, .none, .none, .none, none, .none, .none, 0⟩), ⟨[]⟩⟩
noncomputable def o643_902 (_ : Params) : Obj := ⟨(.type SL.s5856160107412720595x4), none, (.fields ⟨[(.str s190 1131), (.str s461 1132), (.str s402 1133), (.int 485 0), (.int 2 0), (.int 0 0), (.int 0 0), (.int 3 0), (.ref 638), (.bool true), (.int 181 0), (.ref 639), .none, (.ref 640), (.ref 641), (.ref 642), (.int 1139 0), (.int 485 0), (.str s402 1140)]⟩), ⟨[]⟩⟩
noncomputable def o644_903 (_ : Params) : Obj := ⟨(.type SL.s7174869446012820540x8), none, (.func ⟨s190, s461, a182, (.stmts (mAt 59 15)), c183, 3, [], .none, .none, .none, (.str s148 855), none, (.ref 643), .none, 0⟩), ⟨[]⟩⟩
noncomputable def o645_904 (_ : Params) : Obj := ⟨(.type SL.s2766695959194262286x5), none, (.seq ⟨[]⟩ 0), ⟨[]⟩⟩
noncomputable def o646_905 (_ : Params) : Obj := ⟨.none, none, (.fields ⟨[]⟩), ⟨[]⟩⟩
noncomputable def o647_906 (_ : Params) : Obj := ⟨(.type SL.s2766695959194262286x5), none, (.seq ⟨[(.str s21 1145), (.str s194 1146), (.str s130 1147), (.str s164 1148), (.str s191 1149), (.str s187 1150), (.str s195 1151), (.str s196 1152), (.str s41 1153), (.str s166 1154)]⟩ 0), ⟨[]⟩⟩
noncomputable def o648_907 (_ : Params) : Obj := ⟨(.type SL.s2766695959194262286x5), none, (.seq ⟨[]⟩ 0), ⟨[]⟩⟩
noncomputable def s462 : Str := ⟨⟨[nat_lit 84, nat_lit 97, nat_lit 98, nat_lit 108, nat_lit 101, nat_lit 46, nat_lit 114, nat_lit 101, nat_lit 104, nat_lit 97, nat_lit 115, nat_lit 104]⟩⟩
noncomputable def o649_908 (_ : Params) : Obj := ⟨.none, none, (.func ⟨s193, s462, a184, (.stmts (mAt 59 16)), c185, 0, [], .none, .none, .none, .none, none, .none, .none, 0⟩), ⟨[]⟩⟩
noncomputable def o650_909 (_ : Params) : Obj := ⟨(.type SL.s5856160107412720595x4), none, (.fields ⟨[(.str s193 1142), (.str s462 1143), (.str s402 1144), (.int 494 0), (.int 3 0), (.int 0 0), (.int 0 0), (.int 3 0), (.ref 645), (.bool true), (.int 181 0), (.ref 646), .none, (.ref 647), (.ref 648), (.ref 649), (.int 1155 0), (.int 494 0), (.str s402 1156)]⟩), ⟨[]⟩⟩
noncomputable def o651_910 (_ : Params) : Obj := ⟨(.type SL.s7174869446012820540x8), none, (.func ⟨s193, s462, a184, (.stmts (mAt 59 16)), c185, 3, [], .none, .none, .none, (.str s148 855), none, (.ref 650), .none, 0⟩), ⟨[]⟩⟩
noncomputable def o652_911 (_ : Params) : Obj := ⟨(.type SL.s2766695959194262286x5), none, (.seq ⟨[.none]⟩ 0), ⟨[]⟩⟩
noncomputable def o653_912 (_ : Params) : Obj := ⟨(.type SL.s2766695959194262286x5), none, (.seq ⟨[]⟩ 0), ⟨[]⟩⟩
noncomputable def o654_913 (_ : Params) : Obj := ⟨.none, none, (.fields ⟨[]⟩), ⟨[]⟩⟩
noncomputable def o655_914 (_ : Params) : Obj := ⟨(.type SL.s2766695959194262286x5), none, (.seq ⟨[(.str s21 1161), (.str s171 1162), (.str s172 1163), (.str s130 1164), (.str s198 1165), (.str s199 1166), (.str s58 1167), (.str s35 1168), (.str s192 1169)]⟩ 0), ⟨[]⟩⟩
noncomputable def o656_915 (_ : Params) : Obj := ⟨(.type SL.s2766695959194262286x5), none, (.seq ⟨[]⟩ 0), ⟨[]⟩⟩
noncomputable def s463 : Str := ⟨⟨[nat_lit 84, nat_lit 97, nat_lit 98, nat_lit 108, nat_lit 101, nat_lit 46, nat_lit 114, nat_lit 101, nat_lit 115, nat_lit 105, nat_lit 122, nat_lit 101]⟩⟩
noncomputable def o657_916 (_ : Params) : Obj := ⟨.none, none, (.func ⟨s197, s463, a186, (.stmts (mAt 59 17)), c187, 0, [], .none, .none, .none, .none, none, .none, .none, 0⟩), ⟨[]⟩⟩
noncomputable def o658_917 (_ : Params) : Obj := ⟨(.type SL.s5856160107412720595x4), none, (.fields ⟨[(.str s197 1158), (.str s463 1159), (.str s402 1160), (.int 504 0), (.int 4 0), (.int 0 0), (.int 0 0), (.int 3 0), (.ref 653), (.bool true), (.int 181 0), (.ref 654), .none, (.ref 655), (.ref 656), (.ref 657), (.int 1170 0), (.int 504 0), (.str s402 1171)]⟩), ⟨[]⟩⟩
noncomputable def o659_918 (_ : Params) : Obj := ⟨(.type SL.s7174869446012820540x8), none, (.func ⟨s197, s463, a186, (.stmts (mAt 59 17)), c187, 3, [], (.ref 652), .none, .none, (.str s148 855), none, (.ref 658), .none, 0⟩), ⟨[]⟩⟩
noncomputable def o660_919 (_ : Params) : Obj := ⟨(.type SL.s2766695959194262286x5), none, (.seq ⟨[]⟩ 0), ⟨[]⟩⟩
noncomputable def o661_920 (_ : Params) : Obj := ⟨.none, none, (.fields ⟨[]⟩), ⟨[]⟩⟩
noncomputable def o662_921 (_ : Params) : Obj := ⟨(.type SL.s2766695959194262286x5), none, (.seq ⟨[(.str s21 1176), (.str s160 1177), (.str s35 1178), (.str s130 1179), (.str s57 1180)]⟩ 0), ⟨[]⟩⟩
noncomputable def o663_922 (_ : Params) : Obj := ⟨(.type SL.s2766695959194262286x5), none, (.seq ⟨[]⟩ 0), ⟨[]⟩⟩
noncomputable def s464 : Str := ⟨⟨[nat_lit 84, nat_lit 97, nat_lit 98, nat_lit 108, nat_lit 101, nat_lit 46, nat_lit 112, nat_lit 117, nat_lit 116, nat_lit 95, nat_lit 98, nat_lit 97, nat_lit 99, nat_lit 107]⟩⟩
noncomputable def o664_923 (_ : Params) : Obj := ⟨.none, none, (.func ⟨s202, s464, a188, (.stmts (mAt 59 18)), c179, 0, [], .none, .none, .none, .none, none, .none, .none, 0⟩), ⟨[]⟩⟩
noncomputable def o665_924 (_ : Params) : Obj := ⟨(.type SL.s5856160107412720595x4), none, (.fields ⟨[(.str s202 1173), (.str s464 1174), (.str s402 1175), (.int 521 0), (.int 4 0), (.int 0 0), (.int 0 0), (.int 3 0), (.ref 660), (.bool true), (.int 181 0), (.ref 661), .none, (.ref 662), (.ref 663), (.ref 664), (.int 1181 0), (.int 521 0), (.str s402 1182)]⟩), ⟨[]⟩⟩
noncomputable def o666_925 (_ : Params) : Obj := ⟨(.type SL.s7174869446012820540x8), none, (.func ⟨s202, s464, a188, (.stmts (mAt 59 18)), c179, 3, [], .none, .none, .none, (.str s148 855), none, (.ref 665), .none, 0⟩), ⟨[]⟩⟩
noncomputable def o667_926 (_ : Params) : Obj := ⟨(.type SL.s2766695959194262286x5), none, (.seq ⟨[]⟩ 0), ⟨[]⟩⟩
noncomputable def o668_927 (_ : Params) : Obj := ⟨.none, none, (.fields ⟨[]⟩), ⟨[]⟩⟩
noncomputable def s465 : Str := ⟨⟨[nat_lit 84, nat_lit 97, nat_lit 98, nat_lit 108, nat_lit 101, nat_lit 46, nat_lit 109, nat_lit 97, nat_lit 107, nat_lit 101, nat_lit 95, nat_lit 110, nat_lit 111, nat_lit 100, nat_lit 101, nat_lit 115]⟩⟩
noncomputable def o669_928 (_ : Params) : Obj := ⟨.none, none, (.func ⟨s203, s465, a189, (.stmts (mAt 59 19)), c190, 0, [], .none, .none, .none, .none, none, .none, .none, 0⟩), ⟨[]⟩⟩
noncomputable def o670_929 (_ : Params) : Obj := ⟨(.type SL.s5856160107412720595x4), none, (.fields ⟨[(.str s203 1184), (.str s465 1185), (.str s402 1186), (.int 528 0), (.int 2 0), (.int 0 0), (.int 0 0), (.int 3 0), (.ref 667), (.bool true), (.int 181 0), (.ref 668), .none, .none, .none, (.ref 669), (.int 1187 0), (.int 528 0), (.str s402 1188)]⟩), ⟨[]⟩⟩
noncomputable def o671_930 (_ : Params) : Obj := ⟨(.type SL.s7174869446012820540x8), none, (.func ⟨s203, s465, a189, (.stmts (mAt 59 19)), c190, 3, [], .none, .none, .none, (.str s148 855), none, (.ref 670), .none, 0⟩), ⟨[]⟩⟩
noncomputable def o672_931 (_ : Params) : Obj := ⟨(.type SL.s2766695959194262286x5), none, (.seq ⟨[]⟩ 0), ⟨[]⟩⟩
noncomputable def o673_932 (_ : Params) : Obj := ⟨.none, none, (.fields ⟨[]⟩), ⟨[]⟩⟩
noncomputable def o674_933 (_ : Params) : Obj := ⟨(.type SL.s2766695959194262286x5), none, (.seq ⟨[(.str s21 1193), (.str s171 1194), (.str s130 1195)]⟩ 0), ⟨[]⟩⟩
noncomputable def o675_934 (_ : Params) : Obj := ⟨(.type SL.s2766695959194262286x5), none, (.seq ⟨[]⟩ 0), ⟨[]⟩⟩
noncomputable def s466 : Str := ⟨⟨[nat_lit 84, nat_lit 97, nat_lit 98, nat_lit 108, nat_lit 101, nat_lit 46, nat_lit 114, nat_lit 101, nat_lit 115, nat_lit 105, nat_lit 122, nat_lit 101, nat_lit 95, nat_lit 97, nat_lit 114, nat_lit 114, nat_lit 97, nat_lit 121]⟩⟩
noncomputable def o676_935 (_ : Params) : Obj := ⟨.none, none, (.func ⟨s205, s466, a191, (.stmts (mAt 59 20)), c192, 0, [], .none, .none, .none, .none, none, .none, .none, 0⟩), ⟨[]⟩⟩
noncomputable def o677_936 (_ : Params) : Obj := ⟨(.type SL.s5856160107412720595x4), none, (.fields ⟨[(.str s205 1190), (.str s466 1191), (.str s402 1192), (.int 538 0), (.int 3 0), (.int 0 0), (.int 0 0), (.int 3 0), (.ref 672), (.bool true), (.int 181 0), (.ref 673), .none, (.ref 674), (.ref 675), (.ref 676), (.int 1196 0), (.int 538 0), (.str s402 1197)]⟩), ⟨[]⟩⟩
noncomputable def o678_937 (_ : Params) : Obj := ⟨(.type SL.s7174869446012820540x8), none, (.func ⟨s205, s466, a191, (.stmts (mAt 59 20)), c192, 3, [], .none, .none, .none, (.str s148 855), none, (.ref 677), .none, 0⟩), ⟨[]⟩⟩
noncomputable def o679_938 (_ : Params) : Obj := ⟨(.type SL.s2766695959194262286x5), none, (.seq ⟨[]⟩ 0), ⟨[]⟩⟩
noncomputable def o680_939 (_ : Params) : Obj := ⟨.none, none, (.fields ⟨[]⟩), ⟨[]⟩⟩
noncomputable def o681_940 (_ : Params) : Obj := ⟨(.type SL.s2766695959194262286x5), none, (.seq ⟨[(.str s21 1202), (.str s130 1203)]⟩ 0), ⟨[]⟩⟩
noncomputable def o682_941 (_ : Params) : Obj := ⟨(.type SL.s2766695959194262286x5), none, (.seq ⟨[]⟩ 0), ⟨[]⟩⟩
noncomputable def s467 : Str := ⟨⟨[nat_lit 84, nat_lit 97, nat_lit 98, nat_lit 108, nat_lit 101, nat_lit 46, nat_lit 119, nat_lit 101, nat_lit 105, nat_lit 103, nat_lit 104]⟩⟩
noncomputable def o683_942 (_ : Params) : Obj := ⟨.none, none, (.func ⟨s206, s467, a193, (.stmts (mAt 59 21)), c194, 0, [], .none, .none, .none, .none, none, .none, .none, 0⟩), ⟨[]⟩⟩
noncomputable def o684_943 (_ : Params) : Obj := ⟨(.type SL.s5856160107412720595x4), none, (.fields ⟨[(.str s206 1199), (.str s467 1200), (.str s402 1201), (.int 541 0), (.int 2 0), (.int 0 0), (.int 0 0), (.int 3 0), (.ref 679), (.bool true), (.int 181 0), (.ref 680), .none, (.ref 681), (.ref 682), (.ref 683), (.int 1204 0), (.int 541 0), (.str s402 1205)]⟩), ⟨[]⟩⟩
noncomputable def o685_944 (_ : Params) : Obj := ⟨(.type SL.s7174869446012820540x8), none, (.func ⟨s206, s467, a193, (.stmts (mAt 59 21)), c194, 3, [], .none, .none, .none, (.str s148 855), none, (.ref 684), .none, 0⟩), ⟨[]⟩⟩
noncomputable def o686_945 (_ : Params) : Obj := ⟨(.type SL.s2766695959194262286x5), none, (.seq ⟨[]⟩ 0), ⟨[]⟩⟩
noncomputable def o687_946 (_ : Params) : Obj := ⟨.none, none, (.fields ⟨[]⟩), ⟨[]⟩⟩
noncomputable def o688_947 (_ : Params) : Obj := ⟨(.type SL.s2766695959194262286x5), none, (.seq ⟨[(.str s21 1210), (.str s160 1211), (.str s57 1212), (.str s182 1213), (.str s56 1214)]⟩ 0), ⟨[]⟩⟩
noncomputable def o689_948 (_ : Params) : Obj := ⟨(.type SL.s2766695959194262286x5), none, (.seq ⟨[]⟩ 0), ⟨[]⟩⟩
noncomputable def s468 : Str := ⟨⟨[nat_lit 84, nat_lit 97, nat_lit 98, nat_lit 108, nat_lit 101, nat_lit 46, nat_lit 102, nat_lit 105, nat_lit 110, nat_lit 100, nat_lit 95, nat_lit 105, nat_lit 110, nat_lit 100, nat_lit 101, nat_lit 120]⟩⟩
noncomputable def o690_949 (_ : Params) : Obj := ⟨.none, none, (.func ⟨s207, s468, a195, (.stmts (mAt 59 22)), c196, 0, [], .none, .none, .none, .none, none, .none, .none, 0⟩), ⟨[]⟩⟩
noncomputable def o691_950 (_ : Params) : Obj := ⟨(.type SL.s5856160107412720595x4), none, (.fields ⟨[(.str s207 1207), (.str s468 1208), (.str s402 1209), (.int 547 0), (.int 2 0), (.int 0 0), (.int 0 0), (.int 3 0), (.ref 686), (.bool true), (.int 181 0), (.ref 687), .none, (.ref 688), (.ref 689), (.ref 690), (.int 1215 0), (.int 547 0), (.str s402 1216)]⟩), ⟨[]⟩⟩
noncomputable def o692_951 (_ : Params) : Obj := ⟨(.type SL.s7174869446012820540x8), none, (.func ⟨s207, s468, a195, (.stmts (mAt 59 22)), c196, 3, [], .none, .none, .none, (.str s148 855), none, (.ref 691), .none, 0⟩), ⟨[]⟩⟩
noncomputable def o693_952 (_ : Params) : Obj := ⟨(.type SL.s2766695959194262286x5), none, (.seq ⟨[]⟩ 0), ⟨[]⟩⟩
noncomputable def o694_953 (_ : Params) : Obj := ⟨.none, none, (.fields ⟨[]⟩), ⟨[]⟩⟩
noncomputable def o695_954 (_ : Params) : Obj := ⟨(.type SL.s2766695959194262286x5), none, (.seq ⟨[(.str s21 1221), (.str s160 1222), (.str s57 1223), (.str s182 1224), (.str s192 1225)]⟩ 0), ⟨[]⟩⟩
noncomputable def o696_955 (_ : Params) : Obj := ⟨(.type SL.s2766695959194262286x5), none, (.seq ⟨[]⟩ 0), ⟨[]⟩⟩
noncomputable def s469 : Str := ⟨⟨[nat_lit 84, nat_lit 97, nat_lit 98, nat_lit 108, nat_lit 101, nat_lit 46, nat_lit 110, nat_lit 101, nat_lit 120, nat_lit 116]⟩⟩
noncomputable def o697_956 (_ : Params) : Obj := ⟨.none, none, (.func ⟨s161, s469, a197, (.stmts (mAt 59 23)), c198, 0, [], .none, .none, .none, .none, none, .none, .none, 0⟩), ⟨[]⟩⟩
noncomputable def o698_957 (_ : Params) : Obj := ⟨(.type SL.s5856160107412720595x4), none, (.fields ⟨[(.str s161 1218), (.str s469 1219), (.str s402 1220), (.int 563 0), (.int 2 0), (.int 0 0), (.int 0 0), (.int 3 0), (.ref 693), (.bool true), (.int 181 0), (.ref 694), .none, (.ref 695), (.ref 696), (.ref 697), (.int 1226 0), (.int 563 0), (.str s402 1227)]⟩), ⟨[]⟩⟩
noncomputable def o699_958 (_ : Params) : Obj := ⟨(.type SL.s7174869446012820540x8), none, (.func ⟨s161, s469, a197, (.stmts (mAt 59 23)), c198, 3, [], .none, .none, .none, (.str s148 855), none, (.ref 698), .none, 0⟩), ⟨[]⟩⟩
noncomputable def o700_959 (_ : Params) : Obj := ⟨(.type SL.s2766695959194262286x5), none, (.seq ⟨[]⟩ 0), ⟨[]⟩⟩
noncomputable def o701_960 (_ : Params) : Obj := ⟨.none, none, (.fields ⟨[]⟩), ⟨[]⟩⟩
noncomputable def o702_961 (_ : Params) : Obj := ⟨(.type SL.s2766695959194262286x5), none, (.seq ⟨[(.str s21 1232)]⟩ 0), ⟨[]⟩⟩
noncomputable def o703_962 (_ : Params) : Obj := ⟨(.type SL.s2766695959194262286x5), none, (.seq ⟨[]⟩ 0), ⟨[]⟩⟩
noncomputable def s470 : Str := ⟨⟨[nat_lit 84, nat_lit 97, nat_lit 98, nat_lit 108, nat_lit 101, nat_lit 46, nat_lit 108, nat_lit 101, nat_lit 110, nat_lit 103, nat_lit 116, nat_lit 104]⟩⟩
noncomputable def o704_963 (_ : Params) : Obj := ⟨.none, none, (.func ⟨s208, s470, a199, (.stmts (mAt 59 24)), c85, 0, [], .none, .none, .none, .none, none, .none, .none, 0⟩), ⟨[]⟩⟩
noncomputable def o705_964 (_ : Params) : Obj := ⟨(.type SL.s5856160107412720595x4), none, (.fields ⟨[(.str s208 1229), (.str s470 1230), (.str s402 1231), (.int 577 0), (.int 1 0), (.int 0 0), (.int 0 0), (.int 3 0), (.ref 700), (.bool true), (.int 181 0), (.ref 701), .none, (.ref 702), (.ref 703), (.ref 704), (.int 1233 0), (.int 577 0), (.str s402 1234)]⟩), ⟨[]⟩⟩
noncomputable def o706_965 (_ : Params) : Obj := ⟨(.type SL.s7174869446012820540x8), none, (.func ⟨s208, s470, a199, (.stmts (mAt 59 24)), c85, 3, [], .none, .none, .none, (.str s148 855), none, (.ref 705), .none, 0⟩), ⟨[]⟩⟩
noncomputable def o707_966 (_ : Params) : Obj := ⟨(.type SL.s2766695959194262286x5), none, (.seq ⟨[]⟩ 0), ⟨[]⟩⟩
noncomputable def o708_967 (_ : Params) : Obj := ⟨.none, none, (.fields ⟨[]⟩), ⟨[]⟩⟩
noncomputable def o709_968 (_ : Params) : Obj := ⟨(.type SL.s2766695959194262286x5), none, (.seq ⟨[(.str s21 1239), (.str s104 1240)]⟩ 0), ⟨[]⟩⟩
noncomputable def o710_969 (_ : Params) : Obj := ⟨(.type SL.s2766695959194262286x5), none, (.seq ⟨[]⟩ 0), ⟨[]⟩⟩
noncomputable def s471 : Str := ⟨⟨[nat_lit 84, nat_lit 97, nat_lit 98, nat_lit 108, nat_lit 101, nat_lit 46, nat_lit 117, nat_lit 110, nat_lit 98, nat_lit 111, nat_lit 117, nat_lit 110, nat_lit 100, nat_lit 95, nat_lit 115, nat_lit 101, nat_lit 97, nat_lit 114, nat_lit 99, nat_lit 104]⟩⟩
noncomputable def o711_970 (_ : Params) : Obj := ⟨.none, none, (.func ⟨s209, s471, a200, (.stmts (mAt 59 25)), c201, 0, [], .none, .none, .none, .none, none, .none, .none, 0⟩), ⟨[]⟩⟩
noncomputable def o712_971 (_ : Params) : Obj := ⟨(.type SL.s5856160107412720595x4), none, (.fields ⟨[(.str s209 1236), (.str s471 1237), (.str s402 1238), (.int 580 0), (.int 2 0), (.int 0 0), (.int 0 0), (.int 3 0), (.ref 707), (.bool true), (.int 181 0), (.ref 708), .none, (.ref 709), (.ref 710), (.ref 711), (.int 1241 0), (.int 580 0), (.str s402 1242)]⟩), ⟨[]⟩⟩
noncomputable def o713_972 (_ : Params) : Obj := ⟨(.type SL.s7174869446012820540x8), none, (.func ⟨s209, s471, a200, (.stmts (mAt 59 25)), c201, 3, [], .none, .none, .none, (.str s148 855), none, (.ref 712), .none, 0⟩), ⟨[]⟩⟩
noncomputable def o714_973 (_ : Params) : Obj := ⟨(.type SL.s2766695959194262286x5), none, (.seq ⟨[]⟩ 0), ⟨[]⟩⟩
noncomputable def o715_974 (_ : Params) : Obj := ⟨.none, none, (.fields ⟨[]⟩), ⟨[]⟩⟩
noncomputable def o716_975 (_ : Params) : Obj := ⟨(.type SL.s2766695959194262286x5), none, (.seq ⟨[(.str s21 1247), (.str s182 1248)]⟩ 0), ⟨[]⟩⟩
noncomputable def o717_976 (_ : Params) : Obj := ⟨(.type SL.s2766695959194262286x5), none, (.seq ⟨[]⟩ 0), ⟨[]⟩⟩
noncomputable def s472 : Str := ⟨⟨[nat_lit 84, nat_lit 97, nat_lit 98, nat_lit 108, nat_lit 101, nat_lit 46, nat_lit 98, nat_lit 117, nat_lit 114, nat_lit 121]⟩⟩
noncomputable def o718_977 (_ : Params) : Obj := ⟨.none, none, (.func ⟨s210, s472, a202, (.stmts (mAt 59 26)), c203, 0, [], .none, .none, .none, .none, none, .none, .none, 0⟩), ⟨[]⟩⟩
noncomputable def o719_978 (_ : Params) : Obj := ⟨(.type SL.s5856160107412720595x4), none, (.fields ⟨[(.str s210 1244), (.str s472 1245), (.str s402 1246), (.int 583 0), (.int 2 0), (.int 0 0), (.int 0 0), (.int 3 0), (.ref 714), (.bool true), (.int 181 0), (.ref 715), .none, (.ref 716), (.ref 717), (.ref 718), (.int 1249 0), (.int 583 0), (.str s402 1250)]⟩), ⟨[]⟩⟩
noncomputable def o720_979 (_ : Params) : Obj := ⟨(.type SL.s7174869446012820540x8), none, (.func ⟨s210, s472, a202, (.stmts (mAt 59 26)), c203, 3, [], .none, .none, .none, (.str s148 855), none, (.ref 719), .none, 0⟩), ⟨[]⟩⟩
noncomputable def o721_980 (_ : Params) : Obj := ⟨(.type SL.s2766695959194262286x5), none, (.seq ⟨[]⟩ 0), ⟨[]⟩⟩
noncomputable def o722_981 (_ : Params) : Obj := ⟨.none, none, (.fields ⟨[]⟩), ⟨[]⟩⟩
noncomputable def o723_982 (_ : Params) : Obj := ⟨(.type SL.s2766695959194262286x5), none, (.seq ⟨[(.str s21 1255)]⟩ 0), ⟨[]⟩⟩
noncomputable def o724_983 (_ : Params) : Obj := ⟨(.type SL.s2766695959194262286x5), none, (.seq ⟨[]⟩ 0), ⟨[]⟩⟩
noncomputable def s473 : Str := ⟨⟨[nat_lit 84, nat_lit 97, nat_lit 98, nat_lit 108, nat_lit 101, nat_lit 46, nat_lit 98, nat_lit 117, nat_lit 114, nat_lit 121, nat_lit 95, nat_lit 101, nat_lit 109, nat_lit 112, nat_lit 116, nat_lit 121]⟩⟩
noncomputable def o725_984 (_ : Params) : Obj := ⟨.none, none, (.func ⟨s211, s473, a204, (.stmts (mAt 59 27)), c85, 0, [], .none, .none, .none, .none, none, .none, .none, 0⟩), ⟨[]⟩⟩
noncomputable def o726_985 (_ : Params) : Obj := ⟨(.type SL.s5856160107412720595x4), none, (.fields ⟨[(.str s211 1252), (.str s473 1253), (.str s402 1254), (.int 586 0), (.int 1 0), (.int 0 0), (.int 0 0), (.int 3 0), (.ref 721), (.bool true), (.int 181 0), (.ref 722), .none, (.ref 723), (.ref 724), (.ref 725), (.int 1256 0), (.int 586 0), (.str s402 1257)]⟩), ⟨[]⟩⟩
noncomputable def o727_986 (_ : Params) : Obj := ⟨(.type SL.s7174869446012820540x8), none, (.func ⟨s211, s473, a204, (.stmts (mAt 59 27)), c85, 3, [], .none, .none, .none, (.str s148 855), none, (.ref 726), .none, 0⟩), ⟨[]⟩⟩
noncomputable def o728_987 (_ : Params) : Obj := ⟨(.type SL.s2766695959194262286x5), none, (.seq ⟨[]⟩ 0), ⟨[]⟩⟩
noncomputable def o729_988 (_ : Params) : Obj := ⟨.none, none, (.fields ⟨[]⟩), ⟨[]⟩⟩
noncomputable def o730_989 (_ : Params) : Obj := ⟨(.type SL.s2766695959194262286x5), none, (.seq ⟨[(.str s21 1262)]⟩ 0), ⟨[]⟩⟩
noncomputable def o731_990 (_ : Params) : Obj := ⟨(.type SL.s2766695959194262286x5), none, (.seq ⟨[]⟩ 0), ⟨[]⟩⟩
noncomputable def s474 : Str := ⟨⟨[nat_lit 84, nat_lit 97, nat_lit 98, nat_lit 108, nat_lit 101, nat_lit 46, nat_lit 101, nat_lit 110, nat_lit 116, nat_lit 114, nat_lit 105, nat_lit 101, nat_lit 115]⟩⟩
noncomputable def o732_991 (_ : Params) : Obj := ⟨.none, none, (.func ⟨s212, s474, a205, (.stmts (mAt 59 28)), c85, 0, [], .none, .none, .none, .none, none, .none, .none, 0⟩), ⟨[]⟩⟩
noncomputable def o733_992 (_ : Params) : Obj := ⟨(.type SL.s5856160107412720595x4), none, (.fields ⟨[(.str s212 1259), (.str s474 1260), (.str s402 1261), (.int 589 0), (.int 1 0), (.int 0 0), (.int 0 0), (.int 3 0), (.ref 728), (.bool true), (.int 181 0), (.ref 729), .none, (.ref 730), (.ref 731), (.ref 732), (.int 1263 0), (.int 589 0), (.str s402 1264)]⟩), ⟨[]⟩⟩
noncomputable def o734_993 (_ : Params) : Obj := ⟨(.type SL.s7174869446012820540x8), none, (.func ⟨s212, s474, a205, (.stmts (mAt 59 28)), c85, 3, [], .none, .none, .none, (.str s148 855), none, (.ref 733), .none, 0⟩), ⟨[]⟩⟩
noncomputable def o735_994 (_ : Params) : Obj := ⟨(.type SL.s2766695959194262286x5), none, (.seq ⟨[(.str s213 1266), (.str s214 1267), (.str s215 1268), (.str s216 1269), (.str s144 1270), (.str s217 1271), (.str s41 1272), (.str s218 1273)]⟩ 0), ⟨[]⟩⟩
noncomputable def o736_995 (P : Params) : Obj := ⟨(.type SL.s14018661285674007319x4), none, (.dict ⟨[⟨(PySem.PyData.keyHash P s407), (.str s407 979), (.str s148 855)⟩, ⟨(PySem.PyData.keyHash P s409), (.str s409 983), (.int 345 982)⟩, ⟨(PySem.PyData.keyHash P s39), (.str s39 984), (.int 5 219)⟩, ⟨(PySem.PyData.keyHash P s20), (.str s20 997), (.ref 546)⟩, ⟨(PySem.PyData.keyHash P s173), (.str s173 1006), (.ref 553)⟩, ⟨(PySem.PyData.keyHash P s175), (.str s175 1015), (.ref 560)⟩, ⟨(PySem.PyData.keyHash P s176), (.str s176 1022), (.ref 567)⟩, ⟨(PySem.PyData.keyHash P s177), (.str s177 1031), (.ref 574)⟩, ⟨(PySem.PyData.keyHash P s178), (.str s178 1040), (.ref 581)⟩, ⟨(PySem.PyData.keyHash P s69), (.str s69 1049), (.ref 588)⟩, ⟨(PySem.PyData.keyHash P s70), (.str s70 1059), (.ref 595)⟩, ⟨(PySem.PyData.keyHash P s179), (.str s179 1069), (.ref 602)⟩, ⟨(PySem.PyData.keyHash P s180), (.str s180 1079), (.ref 609)⟩, ⟨(PySem.PyData.keyHash P s181), (.str s181 1091), (.ref 616)⟩, ⟨(PySem.PyData.keyHash P s183), (.str s183 1105), (.ref 623)⟩, ⟨(PySem.PyData.keyHash P s185), (.str s185 1116), (.ref 630)⟩, ⟨(PySem.PyData.keyHash P s186), (.str s186 1130), (.ref 637)⟩, ⟨(PySem.PyData.keyHash P s190), (.str s190 1141), (.ref 644)⟩, ⟨(PySem.PyData.keyHash P s193), (.str s193 1157), (.ref 651)⟩, ⟨(PySem.PyData.keyHash P s197), (.str s197 1172), (.ref 659)⟩, ⟨(PySem.PyData.keyHash P s202), (.str s202 1183), (.ref 666)⟩, ⟨(PySem.PyData.keyHash P s203), (.str s203 1189), (.ref 671)⟩, ⟨(PySem.PyData.keyHash P s205), (.str s205 1198), (.ref 678)⟩, ⟨(PySem.PyData.keyHash P s206), (.str s206 1206), (.ref 685)⟩, ⟨(PySem.PyData.keyHash P s207), (.str s207 1217), (.ref 692)⟩, ⟨(PySem.PyData.keyHash P s161), (.str s161 1228), (.ref 699)⟩, ⟨(PySem.PyData.keyHash P s208), (.str s208 1235), (.ref 706)⟩, ⟨(PySem.PyData.keyHash P s209), (.str s209 1243), (.ref 713)⟩, ⟨(PySem.PyData.keyHash P s210), (.str s210 1251), (.ref 720)⟩, ⟨(PySem.PyData.keyHash P s211), (.str s211 1258), (.ref 727)⟩, ⟨(PySem.PyData.keyHash P s212), (.str s212 1265), (.ref 734)⟩, ⟨(PySem.PyData.keyHash P s410), (.str s410 1274), (.ref 735)⟩, ⟨(PySem.PyData.keyHash P s256), (.str s256 1275), .none⟩]⟩ 2), ⟨[]⟩⟩
noncomputable def o737_996 (_ : Params) : Obj := ⟨(.type SL.s17162191345867700912x4), none, (.cls ⟨s170, [(.ref 101)], [(.ref 737), (.ref 101), (.type SL.s2742458400755230247x6)], 736, s170, true, [], [], false, none, false⟩), ⟨[(some (.ref 532)), none, (some (.str s170 972)), (some (.str s170 980)), (some (.builtin SL.s11443829558043349243x14)), (some (.bool true))]⟩⟩
noncomputable def o738_997 (_ : Params) : Obj := ⟨(.type SL.s4290257624100764138x5), none, (.fields ⟨[(.ref 737), (.ref 737), (.ref 737)]⟩), ⟨[]⟩⟩
noncomputable def o739_998 (_ : Params) : Obj := ⟨(.type SL.s11030030927630378310x26), none, (.fields ⟨[(.builtin SL.s4860613602091757760x24), (.ref 737)]⟩), ⟨[]⟩⟩
noncomputable def T6 (P : Params) : BT := (.node (o0_243 P) (.node (o1_244 P) (.node (o3_739 P) (.node (o7_250 P) (.node (o15_261 P) (.node (o31_277 P) (.node (o63_309 P) (.node (o127_375 P) (.node (o255_509 P) (.node (o511_770 P) .nil .nil) .nil) (.node (o383_637 P) (.node (o639_898 P) .nil .nil) .nil)) (.node (o191_442 P) (.node (o319_573 P) (.node (o575_834 P) .nil .nil) .nil) (.node (o447_703 P) (.node (o703_962 P) .nil .nil) .nil))) (.node (o95_343 P) (.node (o159_407 P) (.node (o287_541 P) (.node (o543_802 P) .nil .nil) .nil) (.node (o415_671 P) (.node (o671_930 P) .nil .nil) .nil)) (.node (o223_474 P) (.node (o351_605 P) (.node (o607_866 P) .nil .nil) .nil) (.node (o479_735 P) (.node (o735_994 P) .nil .nil) .nil)))) (.node (o47_293 P) (.node (o79_325 P) (.node (o143_391 P) (.node (o271_525 P) (.node (o527_786 P) .nil .nil) .nil) (.node (o399_653 P) (.node (o655_914 P) .nil .nil) .nil)) (.node (o207_458 P) (.node (o335_589 P) (.node (o591_850 P) .nil .nil) .nil) (.node (o463_719 P) (.node (o719_978 P) .nil .nil) .nil))) (.node (o111_359 P) (.node (o175_426 P) (.node (o303_557 P) (.node (o559_818 P) .nil .nil) .nil) (.node (o431_687 P) (.node (o687_946 P) .nil .nil) .nil)) (.node (o239_490 P) (.node (o367_621 P) (.node (o623_882 P) .nil .nil) .nil) (.node (o495_754 P) .nil .nil))))) (.node (o23_269 P) (.node (o39_285 P) (.node (o71_317 P) (.node (o135_383 P) (.node (o263_517 P) (.node (o519_778 P) .nil .nil) .nil) (.node (o391_645 P) (.node (o647_906 P) .nil .nil) .nil)) (.node (o199_450 P) (.node (o327_581 P) (.node (o583_842 P) .nil .nil) .nil) (.node (o455_711 P) (.node (o711_970 P) .nil .nil) .nil))) (.node (o103_351 P) (.node (o167_418 P) (.node (o295_549 P) (.node (o551_810 P) .nil .nil) .nil) (.node (o423_679 P) (.node (o679_938 P) .nil .nil) .nil)) (.node (o231_482 P) (.node (o359_613 P) (.node (o615_874 P) .nil .nil) .nil) (.node (o487_746 P) .nil .nil)))) (.node (o55_301 P) (.node (o87_335 P) (.node (o151_399 P) (.node (o279_533 P) (.node (o535_794 P) .nil .nil) .nil) (.node (o407_663 P) (.node (o663_922 P) .nil .nil) .nil)) (.node (o215_466 P) (.node (o343_597 P) (.node (o599_858 P) .nil .nil) .nil) (.node (o471_727 P) (.node (o727_986 P) .nil .nil) .nil))) (.node (o119_367 P) (.node (o183_434 P) (.node (o311_565 P) (.node (o567_826 P) .nil .nil) .nil) (.node (o439_695 P) (.node (o695_954 P) .nil .nil) .nil)) (.node (o247_501 P) (.node (o375_629 P) (.node (o631_890 P) .nil .nil) .nil) (.node (o503_762 P) .nil .nil)))))) (.node (o11_254 P) (.node (o19_265 P) (.node (o35_281 P) (.node (o67_313 P) (.node (o131_379 P) (.node (o259_513 P) (.node (o515_774 P) .nil .nil) .nil) (.node (o387_641 P) (.node (o643_902 P) .nil .nil) .nil)) (.node (o195_446 P) (.node (o323_577 P) (.node (o579_838 P) .nil .nil) .nil) (.node (o451_707 P) (.node (o707_966 P) .nil .nil) .nil))) (.node (o99_347 P) (.node (o163_414 P) (.node (o291_545 P) (.node (o547_806 P) .nil .nil) .nil) (.node (o419_675 P) (.node (o675_934 P) .nil .nil) .nil)) (.node (o227_478 P) (.node (o355_609 P) (.node (o611_870 P) .nil .nil) .nil) (.node (o483_742 P) (.node (o739_998 P) .nil .nil) .nil)))) (.node (o51_297 P) (.node (o83_329 P) (.node (o147_395 P) (.node (o275_529 P) (.node (o531_790 P) .nil .nil) .nil) (.node (o403_657 P) (.node (o659_918 P) .nil .nil) .nil)) (.node (o211_462 P) (.node (o339_593 P) (.node (o595_854 P) .nil .nil) .nil) (.node (o467_723 P) (.node (o723_982 P) .nil .nil) .nil))) (.node (o115_363 P) (.node (o179_430 P) (.node (o307_561 P) (.node (o563_822 P) .nil .nil) .nil) (.node (o435_691 P) (.node (o691_950 P) .nil .nil) .nil)) (.node (o243_494 P) (.node (o371_625 P) (.node (o627_886 P) .nil .nil) .nil) (.node (o499_758 P) .nil .nil))))) (.node (o27_273 P) (.node (o43_289 P) (.node (o75_321 P) (.node (o139_387 P) (.node (o267_521 P) (.node (o523_782 P) .nil .nil) .nil) (.node (o395_649 P) (.node (o651_910 P) .nil .nil) .nil)) (.node (o203_454 P) (.node (o331_585 P) (.node (o587_846 P) .nil .nil) .nil) (.node (o459_715 P) (.node (o715_974 P) .nil .nil) .nil))) (.node (o107_355 P) (.node (o171_422 P) (.node (o299_553 P) (.node (o555_814 P) .nil .nil) .nil) (.node (o427_683 P) (.node (o683_942 P) .nil .nil) .nil)) (.node (o235_486 P) (.node (o363_617 P) (.node (o619_878 P) .nil .nil) .nil) (.node (o491_750 P) .nil .nil)))) (.node (o59_305 P) (.node (o91_339 P) (.node (o155_403 P) (.node (o283_537 P) (.node (o539_798 P) .nil .nil) .nil) (.node (o411_667 P) (.node (o667_926 P) .nil .nil) .nil)) (.node (o219_470 P) (.node (o347_601 P) (.node (o603_862 P) .nil .nil) .nil) (.node (o475_731 P) (.node (o731_990 P) .nil .nil) .nil))) (.node (o123_371 P) (.node (o187_438 P) (.node (o315_569 P) (.node (o571_830 P) .nil .nil) .nil) (.node (o443_699 P) (.node (o699_958 P) .nil .nil) .nil)) (.node (o251_505 P) (.node (o379_633 P) (.node (o635_894 P) .nil .nil) .nil) (.node (o507_766 P) .nil .nil))))))) (.node (o5_248 P) (.node (o9_252 P) (.node (o17_263 P) (.node (o33_279 P) (.node (o65_311 P) (.node (o129_377 P) (.node (o257_511 P) (.node (o513_772 P) .nil .nil) .nil) (.node (o385_639 P) (.node (o641_900 P) .nil .nil) .nil)) (.node (o193_444 P) (.node (o321_575 P) (.node (o577_836 P) .nil .nil) .nil) (.node (o449_705 P) (.node (o705_964 P) .nil .nil) .nil))) (.node (o97_345 P) (.node (o161_409 P) (.node (o289_543 P) (.node (o545_804 P) .nil .nil) .nil) (.node (o417_673 P) (.node (o673_932 P) .nil .nil) .nil)) (.node (o225_476 P) (.node (o353_607 P) (.node (o609_868 P) .nil .nil) .nil) (.node (o481_737 P) (.node (o737_996 P) .nil .nil) .nil)))) (.node (o49_295 P) (.node (o81_327 P) (.node (o145_393 P) (.node (o273_527 P) (.node (o529_788 P) .nil .nil) .nil) (.node (o401_655 P) (.node (o657_916 P) .nil .nil) .nil)) (.node (o209_460 P) (.node (o337_591 P) (.node (o593_852 P) .nil .nil) .nil) (.node (o465_721 P) (.node (o721_980 P) .nil .nil) .nil))) (.node (o113_361 P) (.node (o177_428 P) (.node (o305_559 P) (.node (o561_820 P) .nil .nil) .nil) (.node (o433_689 P) (.node (o689_948 P) .nil .nil) .nil)) (.node (o241_492 P) (.node (o369_623 P) (.node (o625_884 P) .nil .nil) .nil) (.node (o497_756 P) .nil .nil))))) (.node (o25_271 P) (.node (o41_287 P) (.node (o73_319 P) (.node (o137_385 P) (.node (o265_519 P) (.node (o521_780 P) .nil .nil) .nil) (.node (o393_647 P) (.node (o649_908 P) .nil .nil) .nil)) (.node (o201_452 P) (.node (o329_583 P) (.node (o585_844 P) .nil .nil) .nil) (.node (o457_713 P) (.node (o713_972 P) .nil .nil) .nil))) (.node (o105_353 P) (.node (o169_420 P) (.node (o297_551 P) (.node (o553_812 P) .nil .nil) .nil) (.node (o425_681 P) (.node (o681_940 P) .nil .nil) .nil)) (.node (o233_484 P) (.node (o361_615 P) (.node (o617_876 P) .nil .nil) .nil) (.node (o489_748 P) .nil .nil)))) (.node (o57_303 P) (.node (o89_337 P) (.node (o153_401 P) (.node (o281_535 P) (.node (o537_796 P) .nil .nil) .nil) (.node (o409_665 P) (.node (o665_924 P) .nil .nil) .nil)) (.node (o217_468 P) (.node (o345_599 P) (.node (o601_860 P) .nil .nil) .nil) (.node (o473_729 P) (.node (o729_988 P) .nil .nil) .nil))) (.node (o121_369 P) (.node (o185_436 P) (.node (o313_567 P) (.node (o569_828 P) .nil .nil) .nil) (.node (o441_697 P) (.node (o697_956 P) .nil .nil) .nil)) (.node (o249_503 P) (.node (o377_631 P) (.node (o633_892 P) .nil .nil) .nil) (.node (o505_764 P) .nil .nil)))))) (.node (o13_256 P) (.node (o21_267 P) (.node (o37_283 P) (.node (o69_315 P) (.node (o133_381 P) (.node (o261_515 P) (.node (o517_776 P) .nil .nil) .nil) (.node (o389_643 P) (.node (o645_904 P) .nil .nil) .nil)) (.node (o197_448 P) (.node (o325_579 P) (.node (o581_840 P) .nil .nil) .nil) (.node (o453_709 P) (.node (o709_968 P) .nil .nil) .nil))) (.node (o101_741 P) (.node (o165_416 P) (.node (o293_547 P) (.node (o549_808 P) .nil .nil) .nil) (.node (o421_677 P) (.node (o677_936 P) .nil .nil) .nil)) (.node (o229_480 P) (.node (o357_611 P) (.node (o613_872 P) .nil .nil) .nil) (.node (o485_744 P) .nil .nil)))) (.node (o53_299 P) (.node (o85_333 P) (.node (o149_397 P) (.node (o277_531 P) (.node (o533_792 P) .nil .nil) .nil) (.node (o405_659 P) (.node (o661_920 P) .nil .nil) .nil)) (.node (o213_464 P) (.node (o341_595 P) (.node (o597_856 P) .nil .nil) .nil) (.node (o469_725 P) (.node (o725_984 P) .nil .nil) .nil))) (.node (o117_365 P) (.node (o181_432 P) (.node (o309_563 P) (.node (o565_824 P) .nil .nil) .nil) (.node (o437_693 P) (.node (o693_952 P) .nil .nil) .nil)) (.node (o245_499 P) (.node (o373_627 P) (.node (o629_888 P) .nil .nil) .nil) (.node (o501_760 P) .nil .nil))))) (.node (o29_275 P) (.node (o45_291 P) (.node (o77_323 P) (.node (o141_389 P) (.node (o269_523 P) (.node (o525_784 P) .nil .nil) .nil) (.node (o397_651 P) (.node (o653_912 P) .nil .nil) .nil)) (.node (o205_456 P) (.node (o333_587 P) (.node (o589_848 P) .nil .nil) .nil) (.node (o461_717 P) (.node (o717_976 P) .nil .nil) .nil))) (.node (o109_357 P) (.node (o173_424 P) (.node (o301_555 P) (.node (o557_816 P) .nil .nil) .nil) (.node (o429_685 P) (.node (o685_944 P) .nil .nil) .nil)) (.node (o237_488 P) (.node (o365_619 P) (.node (o621_880 P) .nil .nil) .nil) (.node (o493_752 P) .nil .nil)))) (.node (o61_307 P) (.node (o93_341 P) (.node (o157_405 P) (.node (o285_539 P) (.node (o541_800 P) .nil .nil) .nil) (.node (o413_669 P) (.node (o669_928 P) .nil .nil) .nil)) (.node (o221_472 P) (.node (o349_603 P) (.node (o605_864 P) .nil .nil) .nil) (.node (o477_733 P) (.node (o733_992 P) .nil .nil) .nil))) (.node (o125_373 P) (.node (o189_440 P) (.node (o317_571 P) (.node (o573_832 P) .nil .nil) .nil) (.node (o445_701 P) (.node (o701_960 P) .nil .nil) .nil)) (.node (o253_507 P) (.node (o381_635 P) (.node (o637_896 P) .nil .nil) .nil) (.node (o509_768 P) .nil .nil)))))))) (.node (o2_258 P) (.node (o4_247 P) (.node (o8_251 P) (.node (o16_262 P) (.node (o32_278 P) (.node (o64_310 P) (.node (o128_376 P) (.node (o256_510 P) (.node (o512_771 P) .nil .nil) .nil) (.node (o384_638 P) (.node (o640_899 P) .nil .nil) .nil)) (.node (o192_443 P) (.node (o320_574 P) (.node (o576_835 P) .nil .nil) .nil) (.node (o448_704 P) (.node (o704_963 P) .nil .nil) .nil))) (.node (o96_344 P) (.node (o160_408 P) (.node (o288_542 P) (.node (o544_803 P) .nil .nil) .nil) (.node (o416_672 P) (.node (o672_931 P) .nil .nil) .nil)) (.node (o224_475 P) (.node (o352_606 P) (.node (o608_867 P) .nil .nil) .nil) (.node (o480_736 P) (.node (o736_995 P) .nil .nil) .nil)))) (.node (o48_294 P) (.node (o80_326 P) (.node (o144_392 P) (.node (o272_526 P) (.node (o528_787 P) .nil .nil) .nil) (.node (o400_654 P) (.node (o656_915 P) .nil .nil) .nil)) (.node (o208_459 P) (.node (o336_590 P) (.node (o592_851 P) .nil .nil) .nil) (.node (o464_720 P) (.node (o720_979 P) .nil .nil) .nil))) (.node (o112_360 P) (.node (o176_427 P) (.node (o304_558 P) (.node (o560_819 P) .nil .nil) .nil) (.node (o432_688 P) (.node (o688_947 P) .nil .nil) .nil)) (.node (o240_491 P) (.node (o368_622 P) (.node (o624_883 P) .nil .nil) .nil) (.node (o496_755 P) .nil .nil))))) (.node (o24_270 P) (.node (o40_286 P) (.node (o72_318 P) (.node (o136_384 P) (.node (o264_518 P) (.node (o520_779 P) .nil .nil) .nil) (.node (o392_646 P) (.node (o648_907 P) .nil .nil) .nil)) (.node (o200_451 P) (.node (o328_582 P) (.node (o584_843 P) .nil .nil) .nil) (.node (o456_712 P) (.node (o712_971 P) .nil .nil) .nil))) (.node (o104_352 P) (.node (o168_419 P) (.node (o296_550 P) (.node (o552_811 P) .nil .nil) .nil) (.node (o424_680 P) (.node (o680_939 P) .nil .nil) .nil)) (.node (o232_483 P) (.node (o360_614 P) (.node (o616_875 P) .nil .nil) .nil) (.node (o488_747 P) .nil .nil)))) (.node (o56_302 P) (.node (o88_336 P) (.node (o152_400 P) (.node (o280_534 P) (.node (o536_795 P) .nil .nil) .nil) (.node (o408_664 P) (.node (o664_923 P) .nil .nil) .nil)) (.node (o216_467 P) (.node (o344_598 P) (.node (o600_859 P) .nil .nil) .nil) (.node (o472_728 P) (.node (o728_987 P) .nil .nil) .nil))) (.node (o120_368 P) (.node (o184_435 P) (.node (o312_566 P) (.node (o568_827 P) .nil .nil) .nil) (.node (o440_696 P) (.node (o696_955 P) .nil .nil) .nil)) (.node (o248_502 P) (.node (o376_630 P) (.node (o632_891 P) .nil .nil) .nil) (.node (o504_763 P) .nil .nil)))))) (.node (o12_740 P) (.node (o20_266 P) (.node (o36_282 P) (.node (o68_314 P) (.node (o132_380 P) (.node (o260_514 P) (.node (o516_775 P) .nil .nil) .nil) (.node (o388_642 P) (.node (o644_903 P) .nil .nil) .nil)) (.node (o196_447 P) (.node (o324_578 P) (.node (o580_839 P) .nil .nil) .nil) (.node (o452_708 P) (.node (o708_967 P) .nil .nil) .nil))) (.node (o100_348 P) (.node (o164_415 P) (.node (o292_546 P) (.node (o548_807 P) .nil .nil) .nil) (.node (o420_676 P) (.node (o676_935 P) .nil .nil) .nil)) (.node (o228_479 P) (.node (o356_610 P) (.node (o612_871 P) .nil .nil) .nil) (.node (o484_743 P) .nil .nil)))) (.node (o52_298 P) (.node (o84_330 P) (.node (o148_396 P) (.node (o276_530 P) (.node (o532_791 P) .nil .nil) .nil) (.node (o404_658 P) (.node (o660_919 P) .nil .nil) .nil)) (.node (o212_463 P) (.node (o340_594 P) (.node (o596_855 P) .nil .nil) .nil) (.node (o468_724 P) (.node (o724_983 P) .nil .nil) .nil))) (.node (o116_364 P) (.node (o180_431 P) (.node (o308_562 P) (.node (o564_823 P) .nil .nil) .nil) (.node (o436_692 P) (.node (o692_951 P) .nil .nil) .nil)) (.node (o244_495 P) (.node (o372_626 P) (.node (o628_887 P) .nil .nil) .nil) (.node (o500_759 P) .nil .nil))))) (.node (o28_274 P) (.node (o44_290 P) (.node (o76_322 P) (.node (o140_388 P) (.node (o268_522 P) (.node (o524_783 P) .nil .nil) .nil) (.node (o396_650 P) (.node (o652_911 P) .nil .nil) .nil)) (.node (o204_455 P) (.node (o332_586 P) (.node (o588_847 P) .nil .nil) .nil) (.node (o460_716 P) (.node (o716_975 P) .nil .nil) .nil))) (.node (o108_356 P) (.node (o172_423 P) (.node (o300_554 P) (.node (o556_815 P) .nil .nil) .nil) (.node (o428_684 P) (.node (o684_943 P) .nil .nil) .nil)) (.node (o236_487 P) (.node (o364_618 P) (.node (o620_879 P) .nil .nil) .nil) (.node (o492_751 P) .nil .nil)))) (.node (o60_306 P) (.node (o92_340 P) (.node (o156_404 P) (.node (o284_538 P) (.node (o540_799 P) .nil .nil) .nil) (.node (o412_668 P) (.node (o668_927 P) .nil .nil) .nil)) (.node (o220_471 P) (.node (o348_602 P) (.node (o604_863 P) .nil .nil) .nil) (.node (o476_732 P) (.node (o732_991 P) .nil .nil) .nil))) (.node (o124_372 P) (.node (o188_439 P) (.node (o316_570 P) (.node (o572_831 P) .nil .nil) .nil) (.node (o444_700 P) (.node (o700_959 P) .nil .nil) .nil)) (.node (o252_506 P) (.node (o380_634 P) (.node (o636_895 P) .nil .nil) .nil) (.node (o508_767 P) .nil .nil))))))) (.node (o6_249 P) (.node (o10_253 P) (.node (o18_264 P) (.node (o34_280 P) (.node (o66_312 P) (.node (o130_378 P) (.node (o258_512 P) (.node (o514_773 P) .nil .nil) .nil) (.node (o386_640 P) (.node (o642_901 P) .nil .nil) .nil)) (.node (o194_445 P) (.node (o322_576 P) (.node (o578_837 P) .nil .nil) .nil) (.node (o450_706 P) (.node (o706_965 P) .nil .nil) .nil))) (.node (o98_346 P) (.node (o162_413 P) (.node (o290_544 P) (.node (o546_805 P) .nil .nil) .nil) (.node (o418_674 P) (.node (o674_933 P) .nil .nil) .nil)) (.node (o226_477 P) (.node (o354_608 P) (.node (o610_869 P) .nil .nil) .nil) (.node (o482_738 P) (.node (o738_997 P) .nil .nil) .nil)))) (.node (o50_296 P) (.node (o82_328 P) (.node (o146_394 P) (.node (o274_528 P) (.node (o530_789 P) .nil .nil) .nil) (.node (o402_656 P) (.node (o658_917 P) .nil .nil) .nil)) (.node (o210_461 P) (.node (o338_592 P) (.node (o594_853 P) .nil .nil) .nil) (.node (o466_722 P) (.node (o722_981 P) .nil .nil) .nil))) (.node (o114_362 P) (.node (o178_429 P) (.node (o306_560 P) (.node (o562_821 P) .nil .nil) .nil) (.node (o434_690 P) (.node (o690_949 P) .nil .nil) .nil)) (.node (o242_493 P) (.node (o370_624 P) (.node (o626_885 P) .nil .nil) .nil) (.node (o498_757 P) .nil .nil))))) (.node (o26_272 P) (.node (o42_288 P) (.node (o74_320 P) (.node (o138_386 P) (.node (o266_520 P) (.node (o522_781 P) .nil .nil) .nil) (.node (o394_648 P) (.node (o650_909 P) .nil .nil) .nil)) (.node (o202_453 P) (.node (o330_584 P) (.node (o586_845 P) .nil .nil) .nil) (.node (o458_714 P) (.node (o714_973 P) .nil .nil) .nil))) (.node (o106_354 P) (.node (o170_421 P) (.node (o298_552 P) (.node (o554_813 P) .nil .nil) .nil) (.node (o426_682 P) (.node (o682_941 P) .nil .nil) .nil)) (.node (o234_485 P) (.node (o362_616 P) (.node (o618_877 P) .nil .nil) .nil) (.node (o490_749 P) .nil .nil)))) (.node (o58_304 P) (.node (o90_338 P) (.node (o154_402 P) (.node (o282_536 P) (.node (o538_797 P) .nil .nil) .nil) (.node (o410_666 P) (.node (o666_925 P) .nil .nil) .nil)) (.node (o218_469 P) (.node (o346_600 P) (.node (o602_861 P) .nil .nil) .nil) (.node (o474_730 P) (.node (o730_989 P) .nil .nil) .nil))) (.node (o122_370 P) (.node (o186_437 P) (.node (o314_568 P) (.node (o570_829 P) .nil .nil) .nil) (.node (o442_698 P) (.node (o698_957 P) .nil .nil) .nil)) (.node (o250_504 P) (.node (o378_632 P) (.node (o634_893 P) .nil .nil) .nil) (.node (o506_765 P) .nil .nil)))))) (.node (o14_257 P) (.node (o22_268 P) (.node (o38_284 P) (.node (o70_316 P) (.node (o134_382 P) (.node (o262_516 P) (.node (o518_777 P) .nil .nil) .nil) (.node (o390_644 P) (.node (o646_905 P) .nil .nil) .nil)) (.node (o198_449 P) (.node (o326_580 P) (.node (o582_841 P) .nil .nil) .nil) (.node (o454_710 P) (.node (o710_969 P) .nil .nil) .nil))) (.node (o102_350 P) (.node (o166_417 P) (.node (o294_548 P) (.node (o550_809 P) .nil .nil) .nil) (.node (o422_678 P) (.node (o678_937 P) .nil .nil) .nil)) (.node (o230_481 P) (.node (o358_612 P) (.node (o614_873 P) .nil .nil) .nil) (.node (o486_745 P) .nil .nil)))) (.node (o54_300 P) (.node (o86_334 P) (.node (o150_398 P) (.node (o278_532 P) (.node (o534_793 P) .nil .nil) .nil) (.node (o406_662 P) (.node (o662_921 P) .nil .nil) .nil)) (.node (o214_465 P) (.node (o342_596 P) (.node (o598_857 P) .nil .nil) .nil) (.node (o470_726 P) (.node (o726_985 P) .nil .nil) .nil))) (.node (o118_366 P) (.node (o182_433 P) (.node (o310_564 P) (.node (o566_825 P) .nil .nil) .nil) (.node (o438_694 P) (.node (o694_953 P) .nil .nil) .nil)) (.node (o246_500 P) (.node (o374_628 P) (.node (o630_889 P) .nil .nil) .nil) (.node (o502_761 P) .nil .nil))))) (.node (o30_276 P) (.node (o46_292 P) (.node (o78_324 P) (.node (o142_390 P) (.node (o270_524 P) (.node (o526_785 P) .nil .nil) .nil) (.node (o398_652 P) (.node (o654_913 P) .nil .nil) .nil)) (.node (o206_457 P) (.node (o334_588 P) (.node (o590_849 P) .nil .nil) .nil) (.node (o462_718 P) (.node (o718_977 P) .nil .nil) .nil))) (.node (o110_358 P) (.node (o174_425 P) (.node (o302_556 P) (.node (o558_817 P) .nil .nil) .nil) (.node (o430_686 P) (.node (o686_945 P) .nil .nil) .nil)) (.node (o238_489 P) (.node (o366_620 P) (.node (o622_881 P) .nil .nil) .nil) (.node (o494_753 P) .nil .nil)))) (.node (o62_308 P) (.node (o94_342 P) (.node (o158_406 P) (.node (o286_540 P) (.node (o542_801 P) .nil .nil) .nil) (.node (o414_670 P) (.node (o670_929 P) .nil .nil) .nil)) (.node (o222_473 P) (.node (o350_604 P) (.node (o606_865 P) .nil .nil) .nil) (.node (o478_734 P) (.node (o734_993 P) .nil .nil) .nil))) (.node (o126_374 P) (.node (o190_441 P) (.node (o318_572 P) (.node (o574_833 P) .nil .nil) .nil) (.node (o446_702 P) (.node (o702_961 P) .nil .nil) .nil)) (.node (o254_508 P) (.node (o382_636 P) (.node (o638_897 P) .nil .nil) .nil) (.node (o510_769 P) .nil .nil)))))))))
noncomputable def o3_999 (P : Params) : Obj := ⟨(.type SL.s14018661285674007319x4), none, (.dict ⟨[⟨(PySem.PyData.keyHash P s2), (.str s2 165), (.str s219 1278)⟩, ⟨(PySem.PyData.keyHash P s256), (.str s256 166), .none⟩, ⟨(PySem.PyData.keyHash P s257), (.str s257 167), .none⟩, ⟨(PySem.PyData.keyHash P s258), (.str s258 168), (.builtin SL.s7097527257260152453x26)⟩, ⟨(PySem.PyData.keyHash P s259), (.str s259 169), .none⟩, ⟨(PySem.PyData.keyHash P s399), (.str s399 170), (.ref 6)⟩, ⟨(PySem.PyData.keyHash P s400), (.str s400 171), (.ref 4)⟩, ⟨(PySem.PyData.keyHash P s401), (.str s401 173), (.str s402 172)⟩, ⟨(PySem.PyData.keyHash P s403), (.str s403 174), .none⟩, ⟨(PySem.PyData.keyHash P s0), (.str s0 193), (.ref 21)⟩, ⟨(PySem.PyData.keyHash P s4), (.str s4 203), (.ref 28)⟩, ⟨(PySem.PyData.keyHash P s9), (.str s9 208), (.int (-1) 207)⟩, ⟨(PySem.PyData.keyHash P s10), (.str s10 210), (.int 0 209)⟩, ⟨(PySem.PyData.keyHash P s11), (.str s11 212), (.int 1 211)⟩, ⟨(PySem.PyData.keyHash P s12), (.str s12 214), (.int 2 213)⟩, ⟨(PySem.PyData.keyHash P s13), (.str s13 216), (.int 3 215)⟩, ⟨(PySem.PyData.keyHash P s14), (.str s14 218), (.int 4 217)⟩, ⟨(PySem.PyData.keyHash P s15), (.str s15 220), (.int 5 219)⟩, ⟨(PySem.PyData.keyHash P s16), (.str s16 222), (.int 8 221)⟩, ⟨(PySem.PyData.keyHash P s17), (.str s17 224), (.int 10 223)⟩, ⟨(PySem.PyData.keyHash P s18), (.str s18 226), (.int 4294967295 225)⟩, ⟨(PySem.PyData.keyHash P s19), (.str s19 297), (.ref 60)⟩, ⟨(PySem.PyData.keyHash P s33), (.str s33 328), (.ref 81)⟩, ⟨(PySem.PyData.keyHash P s38), (.str s38 361), (.ref 101)⟩, ⟨(PySem.PyData.keyHash P s43), (.str s43 390), (.ref 122)⟩, ⟨(PySem.PyData.keyHash P s44), (.str s44 397), (.ref 133)⟩, ⟨(PySem.PyData.keyHash P s48), (.str s48 404), (.ref 140)⟩, ⟨(PySem.PyData.keyHash P s50), (.str s50 411), (.ref 147)⟩, ⟨(PySem.PyData.keyHash P s51), (.str s51 420), (.ref 154)⟩, ⟨(PySem.PyData.keyHash P s55), (.str s55 430), (.ref 161)⟩, ⟨(PySem.PyData.keyHash P s59), (.str s59 438), (.ref 168)⟩, ⟨(PySem.PyData.keyHash P s61), (.str s61 445), (.ref 175)⟩, ⟨(PySem.PyData.keyHash P s63), (.str s63 449), (.int 4 448)⟩, ⟨(PySem.PyData.keyHash P s64), (.str s64 508), (.ref 221)⟩, ⟨(PySem.PyData.keyHash P s72), (.str s72 517), (.ref 230)⟩, ⟨(PySem.PyData.keyHash P s74), (.str s74 526), (.ref 237)⟩, ⟨(PySem.PyData.keyHash P s75), (.str s75 534), (.ref 244)⟩, ⟨(PySem.PyData.keyHash P s77), (.str s77 544), (.ref 251)⟩, ⟨(PySem.PyData.keyHash P s80), (.str s80 548), (.int 0 547)⟩, ⟨(PySem.PyData.keyHash P s81), (.str s81 551), (.int (-1) 550)⟩, ⟨(PySem.PyData.keyHash P s82), (.str s82 553), (.int 20 552)⟩, ⟨(PySem.PyData.keyHash P s83), (.str s83 555), (.int 20 554)⟩, ⟨(PySem.PyData.keyHash P s84), (.str s84 608), (.ref 282)⟩, ⟨(PySem.PyData.keyHash P s94), (.str s94 769), (.ref 403)⟩, ⟨(PySem.PyData.keyHash P s127), (.str s127 814), (.ref 429)⟩, ⟨(PySem.PyData.keyHash P s138), (.str s138 823), (.ref 440)⟩, ⟨(PySem.PyData.keyHash P s139), (.str s139 832), (.ref 447)⟩, ⟨(PySem.PyData.keyHash P s141), (.str s141 841), (.ref 454)⟩, ⟨(PySem.PyData.keyHash P s143), (.str s143 854), (.ref 461)⟩, ⟨(PySem.PyData.keyHash P s149), (.str s149 858), (.int 26 857)⟩, ⟨(PySem.PyData.keyHash P s150), (.str s150 861), (.int 67108864 860)⟩, ⟨(PySem.PyData.keyHash P s151), (.str s151 865), (.int 4194304 864)⟩, ⟨(PySem.PyData.keyHash P s152), (.str s152 869), (.int 1048576 868)⟩, ⟨(PySem.PyData.keyHash P s153), (.str s153 871), (.int 56 870)⟩, ⟨(PySem.PyData.keyHash P s154), (.str s154 873), (.int 16 872)⟩, ⟨(PySem.PyData.keyHash P s155), (.str s155 875), (.int 32 874)⟩, ⟨(PySem.PyData.keyHash P s156), (.str s156 904), (.ref 478)⟩, ⟨(PySem.PyData.keyHash P s157), (.str s157 942), (.ref 506)⟩, ⟨(PySem.PyData.keyHash P s162), (.str s162 949), (.ref 517)⟩, ⟨(PySem.PyData.keyHash P s163), (.str s163 962), (.ref 524)⟩, ⟨(PySem.PyData.keyHash P s169), (.str s169 971), (.ref 531)⟩, ⟨(PySem.PyData.keyHash P s170), (.str s170 1277), (.ref 737)⟩, ⟨(PySem.PyData.keyHash P s220), (.str s220 1412), (.ref 840)⟩]⟩ 63), ⟨[]⟩⟩
noncomputable def o12_1000 (_ : Params) : Obj := ⟨.none, none, (.fields ⟨[(.int 1 0), (.int 0 0), (.ref 20), (.int 5 0), (.int 0 0), (.ref 27), (.int 19 0), (.int 0 0), (.ref 34), (.int 38 0), (.int 0 0), (.ref 70), (.int 44 0), (.int 0 0), (.ref 90), (.int 51 0), (.int 0 0), (.ref 111), (.int 55 0), (.int 0 0), (.ref 132), (.int 57 0), (.int 0 0), (.ref 139), (.int 71 0), (.int 0 0), (.ref 146), (.int 73 0), (.int 0 0), (.ref 153), (.int 82 0), (.int 0 0), (.ref 160), (.int 89 0), (.int 0 0), (.ref 167), (.int 95 0), (.int 0 0), (.ref 174), (.int 99 0), (.int 0 0), (.ref 181), (.int 128 0), (.int 0 0), (.ref 229), (.int 133 0), (.int 0 0), (.ref 236), (.int 138 0), (.int 0 0), (.ref 243), (.int 140 0), (.int 0 0), (.ref 250), (.int 152 0), (.int 0 0), (.ref 257), (.int 168 0), (.int 0 0), (.ref 292), (.int 253 0), (.int 0 0), (.ref 411), (.int 269 0), (.int 0 0), (.ref 439), (.int 277 0), (.int 0 0), (.ref 446), (.int 281 0), (.int 0 0), (.ref 453), (.int 287 0), (.int 0 0), (.ref 460), (.int 305 0), (.int 0 0), (.ref 467), (.int 309 0), (.int 0 0), (.ref 488), (.int 320 0), (.int 0 0), (.ref 516), (.int 322 0), (.int 0 0), (.ref 523), (.int 339 0), (.int 0 0), (.ref 530), (.int 345 0), (.int 0 0), (.ref 537), (.int 592 0), (.int 0 0), (.ref 745)]⟩), ⟨[]⟩⟩
noncomputable def o740_1001 (_ : Params) : Obj := ⟨(.type SL.s2766695959194262286x5), none, (.seq ⟨[]⟩ 0), ⟨[]⟩⟩
noncomputable def o741_1002 (_ : Params) : Obj := ⟨(.type SL.s11030030927630378310x26), none, (.fields ⟨[(.builtin SL.s10062305145149207511x16), (.type SL.s17162191345867700912x4)]⟩), ⟨[]⟩⟩
noncomputable def o742_1003 (P : Params) : Obj := ⟨(.type SL.s14018661285674007319x4), none, (.dict ⟨[⟨(PySem.PyData.keyHash P s407), (.str s407 1287), (.str s219 1278)⟩, ⟨(PySem.PyData.keyHash P s408), (.str s408 1289), (.str s220 1288)⟩, ⟨(PySem.PyData.keyHash P s409), (.str s409 1291), (.int 592 1290)⟩, ⟨(PySem.PyData.keyHash P s20), (.str s20 1298), (.ref 753)⟩, ⟨(PySem.PyData.keyHash P s221), (.str s221 1307), (.ref 760)⟩, ⟨(PySem.PyData.keyHash P s223), (.str s223 1316), (.ref 767)⟩, ⟨(PySem.PyData.keyHash P s224), (.str s224 1326), (.ref 774)⟩, ⟨(PySem.PyData.keyHash P s228), (.str s228 1336), (.ref 781)⟩, ⟨(PySem.PyData.keyHash P s229), (.str s229 1344), (.ref 788)⟩, ⟨(PySem.PyData.keyHash P s230), (.str s230 1352), (.ref 795)⟩, ⟨(PySem.PyData.keyHash P s231), (.str s231 1360), (.ref 802)⟩, ⟨(PySem.PyData.keyHash P s232), (.str s232 1368), (.ref 809)⟩, ⟨(PySem.PyData.keyHash P s234), (.str s234 1377), (.ref 816)⟩, ⟨(PySem.PyData.keyHash P s237), (.str s237 1385), (.ref 823)⟩, ⟨(PySem.PyData.keyHash P s238), (.str s238 1394), (.ref 830)⟩, ⟨(PySem.PyData.keyHash P s239), (.str s239 1402), (.ref 837)⟩, ⟨(PySem.PyData.keyHash P s410), (.str s410 1405), (.ref 838)⟩]⟩ 17), ⟨[]⟩⟩
noncomputable def o743_1004 (_ : Params) : Obj := ⟨(.type SL.s2766695959194262286x5), none, (.seq ⟨[]⟩ 0), ⟨[]⟩⟩
noncomputable def o744_1005 (_ : Params) : Obj := ⟨.none, none, (.fields ⟨[(.int 594 0), (.int 4 0), (.ref 752), (.int 598 0), (.int 4 0), (.ref 759), (.int 604 0), (.int 4 0), (.ref 766), (.int 607 0), (.int 4 0), (.ref 773), (.int 610 0), (.int 4 0), (.ref 780), (.int 615 0), (.int 4 0), (.ref 787), (.int 618 0), (.int 4 0), (.ref 794), (.int 621 0), (.int 4 0), (.ref 801), (.int 624 0), (.int 4 0), (.ref 808), (.int 627 0), (.int 4 0), (.ref 815), (.int 630 0), (.int 4 0), (.ref 822), (.int 633 0), (.int 4 0), (.ref 829), (.int 636 0), (.int 4 0), (.ref 836)]⟩), ⟨[]⟩⟩
noncomputable def o745_1006 (_ : Params) : Obj := ⟨(.type SL.s5856160107412720595x4), none, (.fields ⟨[(.str s220 1282), (.str s220 1283), (.str s402 1284), (.int 592 0), (.int 0 0), (.int 0 0), (.int 0 0), (.int 0 0), (.ref 743), (.bool false), (.int 181 0), (.ref 744), .none, .none, .none, .none, (.int 1285 0), (.int 592 0), (.str s402 1286)]⟩), ⟨[]⟩⟩
noncomputable def o746_1007 (_ : Params) : Obj := ⟨(.type SL.s658472552662922059x5), none, .plain, ⟨[(some (.ref 745)), (some (.ref 3)), (some (.ref 742)), none, (some (.str s219 1278)), none, (some (.ref 0))]⟩⟩
noncomputable def o747_1008 (_ : Params) : Obj := ⟨(.type SL.s2766695959194262286x5), none, (.seq ⟨[]⟩ 0), ⟨[]⟩⟩
noncomputable def o748_1009 (_ : Params) : Obj := ⟨.none, none, (.fields ⟨[]⟩), ⟨[]⟩⟩
noncomputable def o749_1010 (_ : Params) : Obj := ⟨(.type SL.s2766695959194262286x5), none, (.seq ⟨[(.str s21 1295)]⟩ 0), ⟨[]⟩⟩
noncomputable def o750_1011 (_ : Params) : Obj := ⟨(.type SL.s2766695959194262286x5), none, (.seq ⟨[]⟩ 0), ⟨[]⟩⟩
noncomputable def s475 : Str := ⟨⟨[nat_lit 80, nat_lit 108, nat_lit 97, nat_lit 105, nat_lit 110, nat_lit 72, nat_lit 101, nat_lit 97, nat_lit 112, nat_lit 46, nat_lit 95, nat_lit 95, nat_lit 105, nat_lit 110, nat_lit 105, nat_lit 116, nat_lit 95, nat_lit 95]⟩⟩
noncomputable def o751_1012 (_ : Params) : Obj := ⟨.none, none, (.func ⟨s20, s475, a208, (.stmts (mAt 61 0)), c21, 0, [], .none, .none, .none, .none, none, .none, .none, 0⟩), ⟨[]⟩⟩
noncomputable def o752_1013 (_ : Params) : Obj := ⟨(.type SL.s5856160107412720595x4), none, (.fields ⟨[(.str s20 1292), (.str s475 1293), (.str s402 1294), (.int 594 0), (.int 1 0), (.int 0 0), (.int 0 0), (.int 3 0), (.ref 747), (.bool true), (.int 181 0), (.ref 748), .none, (.ref 749), (.ref 750), (.ref 751), (.int 1296 0), (.int 594 0), (.str s402 1297)]⟩), ⟨[]⟩⟩
noncomputable def o753_1014 (_ : Params) : Obj := ⟨(.type SL.s7174869446012820540x8), none, (.func ⟨s20, s475, a208, (.stmts (mAt 61 0)), c21, 3, [], .none, .none, .none, (.str s219 1278), none, (.ref 752), .none, 0⟩), ⟨[]⟩⟩
noncomputable def o754_1015 (_ : Params) : Obj := ⟨(.type SL.s2766695959194262286x5), none, (.seq ⟨[]⟩ 0), ⟨[]⟩⟩
noncomputable def o755_1016 (_ : Params) : Obj := ⟨.none, none, (.fields ⟨[]⟩), ⟨[]⟩⟩
noncomputable def o756_1017 (_ : Params) : Obj := ⟨(.type SL.s2766695959194262286x5), none, (.seq ⟨[(.str s21 1302), (.str s222 1303), (.str s41 1304)]⟩ 0), ⟨[]⟩⟩
noncomputable def o757_1018 (_ : Params) : Obj := ⟨(.type SL.s2766695959194262286x5), none, (.seq ⟨[]⟩ 0), ⟨[]⟩⟩
noncomputable def s476 : Str := ⟨⟨[nat_lit 80, nat_lit 108, nat_lit 97, nat_lit 105, nat_lit 110, nat_lit 72, nat_lit 101, nat_lit 97, nat_lit 112, nat_lit 46, nat_lit 108, nat_lit 105, nat_lit 110, nat_lit 107]⟩⟩
noncomputable def o758_1019 (_ : Params) : Obj := ⟨.none, none, (.func ⟨s221, s476, a209, (.stmts (mAt 61 1)), c210, 0, [], .none, .none, .none, .none, none, .none, .none, 0⟩), ⟨[]⟩⟩
noncomputable def o759_1020 (_ : Params) : Obj := ⟨(.type SL.s5856160107412720595x4), none, (.fields ⟨[(.str s221 1299), (.str s476 1300), (.str s402 1301), (.int 598 0), (.int 3 0), (.int 0 0), (.int 0 0), (.int 3 0), (.ref 754), (.bool true), (.int 181 0), (.ref 755), .none, (.ref 756), (.ref 757), (.ref 758), (.int 1305 0), (.int 598 0), (.str s402 1306)]⟩), ⟨[]⟩⟩
noncomputable def o760_1021 (_ : Params) : Obj := ⟨(.type SL.s7174869446012820540x8), none, (.func ⟨s221, s476, a209, (.stmts (mAt 61 1)), c210, 3, [], .none, .none, .none, (.str s219 1278), none, (.ref 759), .none, 0⟩), ⟨[]⟩⟩
noncomputable def o761_1022 (_ : Params) : Obj := ⟨(.type SL.s2766695959194262286x5), none, (.seq ⟨[]⟩ 0), ⟨[]⟩⟩
noncomputable def o762_1023 (_ : Params) : Obj := ⟨.none, none, (.fields ⟨[]⟩), ⟨[]⟩⟩
noncomputable def o763_1024 (_ : Params) : Obj := ⟨(.type SL.s2766695959194262286x5), none, (.seq ⟨[(.str s21 1311), (.str s171 1312), (.str s172 1313)]⟩ 0), ⟨[]⟩⟩
noncomputable def o764_1025 (_ : Params) : Obj := ⟨(.type SL.s2766695959194262286x5), none, (.seq ⟨[]⟩ 0), ⟨[]⟩⟩
noncomputable def s477 : Str := ⟨⟨[nat_lit 80, nat_lit 108, nat_lit 97, nat_lit 105, nat_lit 110, nat_lit 72, nat_lit 101, nat_lit 97, nat_lit 112, nat_lit 46, nat_lit 110, nat_lit 101, nat_lit 119, nat_lit 95, nat_lit 116, nat_lit 97, nat_lit 98, nat_lit 108, nat_lit 101]⟩⟩
noncomputable def o765_1026 (_ : Params) : Obj := ⟨.none, none, (.func ⟨s223, s477, a211, (.stmts (mAt 61 2)), c212, 0, [], .none, .none, .none, .none, none, .none, .none, 0⟩), ⟨[]⟩⟩
noncomputable def o766_1027 (_ : Params) : Obj := ⟨(.type SL.s5856160107412720595x4), none, (.fields ⟨[(.str s223 1308), (.str s477 1309), (.str s402 1310), (.int 604 0), (.int 3 0), (.int 0 0), (.int 0 0), (.int 3 0), (.ref 761), (.bool true), (.int 181 0), (.ref 762), .none, (.ref 763), (.ref 764), (.ref 765), (.int 1314 0), (.int 604 0), (.str s402 1315)]⟩), ⟨[]⟩⟩
noncomputable def o767_1028 (_ : Params) : Obj := ⟨(.type SL.s7174869446012820540x8), none, (.func ⟨s223, s477, a211, (.stmts (mAt 61 2)), c212, 3, [], .none, .none, .none, (.str s219 1278), none, (.ref 766), .none, 0⟩), ⟨[]⟩⟩
noncomputable def o768_1029 (_ : Params) : Obj := ⟨(.type SL.s2766695959194262286x5), none, (.seq ⟨[]⟩ 0), ⟨[]⟩⟩
noncomputable def o769_1030 (_ : Params) : Obj := ⟨.none, none, (.fields ⟨[]⟩), ⟨[]⟩⟩
noncomputable def o770_1031 (_ : Params) : Obj := ⟨(.type SL.s2766695959194262286x5), none, (.seq ⟨[(.str s21 1320), (.str s225 1321), (.str s226 1322), (.str s227 1323)]⟩ 0), ⟨[]⟩⟩
noncomputable def o771_1032 (_ : Params) : Obj := ⟨(.type SL.s2766695959194262286x5), none, (.seq ⟨[]⟩ 0), ⟨[]⟩⟩
noncomputable def s478 : Str := ⟨⟨[nat_lit 80, nat_lit 108, nat_lit 97, nat_lit 105, nat_lit 110, nat_lit 72, nat_lit 101, nat_lit 97, nat_lit 112, nat_lit 46, nat_lit 110, nat_lit 101, nat_lit 119, nat_lit 95, nat_lit 108, nat_lit 117, nat_lit 97, nat_lit 95, nat_lit 99, nat_lit 108, nat_lit 111, nat_lit 115, nat_lit 117, nat_lit 114, nat_lit 101]⟩⟩
noncomputable def o772_1033 (_ : Params) : Obj := ⟨.none, none, (.func ⟨s224, s478, a213, (.stmts (mAt 61 3)), c214, 0, [], .none, .none, .none, .none, none, .none, .none, 0⟩), ⟨[]⟩⟩
noncomputable def o773_1034 (_ : Params) : Obj := ⟨(.type SL.s5856160107412720595x4), none, (.fields ⟨[(.str s224 1317), (.str s478 1318), (.str s402 1319), (.int 607 0), (.int 4 0), (.int 0 0), (.int 0 0), (.int 3 0), (.ref 768), (.bool true), (.int 181 0), (.ref 769), .none, (.ref 770), (.ref 771), (.ref 772), (.int 1324 0), (.int 607 0), (.str s402 1325)]⟩), ⟨[]⟩⟩
noncomputable def o774_1035 (_ : Params) : Obj := ⟨(.type SL.s7174869446012820540x8), none, (.func ⟨s224, s478, a213, (.stmts (mAt 61 3)), c214, 3, [], .none, .none, .none, (.str s219 1278), none, (.ref 773), .none, 0⟩), ⟨[]⟩⟩
noncomputable def o775_1036 (_ : Params) : Obj := ⟨(.type SL.s2766695959194262286x5), none, (.seq ⟨[]⟩ 0), ⟨[]⟩⟩
noncomputable def o776_1037 (_ : Params) : Obj := ⟨.none, none, (.fields ⟨[]⟩), ⟨[]⟩⟩
noncomputable def o777_1038 (_ : Params) : Obj := ⟨(.type SL.s2766695959194262286x5), none, (.seq ⟨[(.str s21 1330), (.str s65 1331), (.str s66 1332), (.str s76 1333)]⟩ 0), ⟨[]⟩⟩
noncomputable def o778_1039 (_ : Params) : Obj := ⟨(.type SL.s2766695959194262286x5), none, (.seq ⟨[]⟩ 0), ⟨[]⟩⟩
noncomputable def s479 : Str := ⟨⟨[nat_lit 80, nat_lit 108, nat_lit 97, nat_lit 105, nat_lit 110, nat_lit 72, nat_lit 101, nat_lit 97, nat_lit 112, nat_lit 46, nat_lit 110, nat_lit 101, nat_lit 119, nat_lit 95, nat_lit 117, nat_lit 112, nat_lit 118, nat_lit 97, nat_lit 108]⟩⟩
noncomputable def o779_1040 (_ : Params) : Obj := ⟨.none, none, (.func ⟨s228, s479, a215, (.stmts (mAt 61 4)), c216, 0, [], .none, .none, .none, .none, none, .none, .none, 0⟩), ⟨[]⟩⟩
noncomputable def o780_1041 (_ : Params) : Obj := ⟨(.type SL.s5856160107412720595x4), none, (.fields ⟨[(.str s228 1327), (.str s479 1328), (.str s402 1329), (.int 610 0), (.int 3 0), (.int 0 0), (.int 0 0), (.int 3 0), (.ref 775), (.bool true), (.int 181 0), (.ref 776), .none, (.ref 777), (.ref 778), (.ref 779), (.int 1334 0), (.int 610 0), (.str s402 1335)]⟩), ⟨[]⟩⟩
noncomputable def o781_1042 (_ : Params) : Obj := ⟨(.type SL.s7174869446012820540x8), none, (.func ⟨s228, s479, a215, (.stmts (mAt 61 4)), c216, 3, [], .none, .none, .none, (.str s219 1278), none, (.ref 780), .none, 0⟩), ⟨[]⟩⟩
noncomputable def o782_1043 (_ : Params) : Obj := ⟨(.type SL.s2766695959194262286x5), none, (.seq ⟨[]⟩ 0), ⟨[]⟩⟩
noncomputable def o783_1044 (_ : Params) : Obj := ⟨.none, none, (.fields ⟨[]⟩), ⟨[]⟩⟩
noncomputable def o784_1045 (_ : Params) : Obj := ⟨(.type SL.s2766695959194262286x5), none, (.seq ⟨[(.str s21 1340), (.str s222 1341)]⟩ 0), ⟨[]⟩⟩
noncomputable def o785_1046 (_ : Params) : Obj := ⟨(.type SL.s2766695959194262286x5), none, (.seq ⟨[]⟩ 0), ⟨[]⟩⟩
noncomputable def s480 : Str := ⟨⟨[nat_lit 80, nat_lit 108, nat_lit 97, nat_lit 105, nat_lit 110, nat_lit 72, nat_lit 101, nat_lit 97, nat_lit 112, nat_lit 46, nat_lit 105, nat_lit 115, nat_lit 95, nat_lit 100, nat_lit 101, nat_lit 97, nat_lit 100]⟩⟩
noncomputable def o786_1047 (_ : Params) : Obj := ⟨.none, none, (.func ⟨s229, s480, a217, (.stmts (mAt 61 5)), c218, 0, [], .none, .none, .none, .none, none, .none, .none, 0⟩), ⟨[]⟩⟩
noncomputable def o787_1048 (_ : Params) : Obj := ⟨(.type SL.s5856160107412720595x4), none, (.fields ⟨[(.str s229 1337), (.str s480 1338), (.str s402 1339), (.int 615 0), (.int 2 0), (.int 0 0), (.int 0 0), (.int 3 0), (.ref 782), (.bool true), (.int 181 0), (.ref 783), .none, (.ref 784), (.ref 785), (.ref 786), (.int 1342 0), (.int 615 0), (.str s402 1343)]⟩), ⟨[]⟩⟩
noncomputable def o788_1049 (_ : Params) : Obj := ⟨(.type SL.s7174869446012820540x8), none, (.func ⟨s229, s480, a217, (.stmts (mAt 61 5)), c218, 3, [], .none, .none, .none, (.str s219 1278), none, (.ref 787), .none, 0⟩), ⟨[]⟩⟩
noncomputable def o789_1050 (_ : Params) : Obj := ⟨(.type SL.s2766695959194262286x5), none, (.seq ⟨[]⟩ 0), ⟨[]⟩⟩
noncomputable def o790_1051 (_ : Params) : Obj := ⟨.none, none, (.fields ⟨[]⟩), ⟨[]⟩⟩
noncomputable def o791_1052 (_ : Params) : Obj := ⟨(.type SL.s2766695959194262286x5), none, (.seq ⟨[(.str s21 1348), (.str s222 1349)]⟩ 0), ⟨[]⟩⟩
noncomputable def o792_1053 (_ : Params) : Obj := ⟨(.type SL.s2766695959194262286x5), none, (.seq ⟨[]⟩ 0), ⟨[]⟩⟩
noncomputable def s481 : Str := ⟨⟨[nat_lit 80, nat_lit 108, nat_lit 97, nat_lit 105, nat_lit 110, nat_lit 72, nat_lit 101, nat_lit 97, nat_lit 112, nat_lit 46, nat_lit 114, nat_lit 101, nat_lit 118, nat_lit 105, nat_lit 118, nat_lit 101]⟩⟩
noncomputable def o793_1054 (_ : Params) : Obj := ⟨.none, none, (.func ⟨s230, s481, a219, (.stmts (mAt 61 6)), c218, 0, [], .none, .none, .none, .none, none, .none, .none, 0⟩), ⟨[]⟩⟩
noncomputable def o794_1055 (_ : Params) : Obj := ⟨(.type SL.s5856160107412720595x4), none, (.fields ⟨[(.str s230 1345), (.str s481 1346), (.str s402 1347), (.int 618 0), (.int 2 0), (.int 0 0), (.int 0 0), (.int 3 0), (.ref 789), (.bool true), (.int 181 0), (.ref 790), .none, (.ref 791), (.ref 792), (.ref 793), (.int 1350 0), (.int 618 0), (.str s402 1351)]⟩), ⟨[]⟩⟩
noncomputable def o795_1056 (_ : Params) : Obj := ⟨(.type SL.s7174869446012820540x8), none, (.func ⟨s230, s481, a219, (.stmts (mAt 61 6)), c218, 3, [], .none, .none, .none, (.str s219 1278), none, (.ref 794), .none, 0⟩), ⟨[]⟩⟩
noncomputable def o796_1057 (_ : Params) : Obj := ⟨(.type SL.s2766695959194262286x5), none, (.seq ⟨[]⟩ 0), ⟨[]⟩⟩
noncomputable def o797_1058 (_ : Params) : Obj := ⟨.none, none, (.fields ⟨[]⟩), ⟨[]⟩⟩
noncomputable def o798_1059 (_ : Params) : Obj := ⟨(.type SL.s2766695959194262286x5), none, (.seq ⟨[(.str s21 1356), (.str s76 1357)]⟩ 0), ⟨[]⟩⟩
noncomputable def o799_1060 (_ : Params) : Obj := ⟨(.type SL.s2766695959194262286x5), none, (.seq ⟨[]⟩ 0), ⟨[]⟩⟩
noncomputable def s482 : Str := ⟨⟨[nat_lit 80, nat_lit 108, nat_lit 97, nat_lit 105, nat_lit 110, nat_lit 72, nat_lit 101, nat_lit 97, nat_lit 112, nat_lit 46, nat_lit 99, nat_lit 108, nat_lit 111, nat_lit 115, nat_lit 101, nat_lit 100, nat_lit 95, nat_lit 117, nat_lit 112, nat_lit 118, nat_lit 97, nat_lit 108]⟩⟩
noncomputable def o800_1061 (_ : Params) : Obj := ⟨.none, none, (.func ⟨s231, s482, a220, (.stmts (mAt 61 7)), c221, 0, [], .none, .none, .none, .none, none, .none, .none, 0⟩), ⟨[]⟩⟩
noncomputable def o801_1062 (_ : Params) : Obj := ⟨(.type SL.s5856160107412720595x4), none, (.fields ⟨[(.str s231 1353), (.str s482 1354), (.str s402 1355), (.int 621 0), (.int 2 0), (.int 0 0), (.int 0 0), (.int 3 0), (.ref 796), (.bool true), (.int 181 0), (.ref 797), .none, (.ref 798), (.ref 799), (.ref 800), (.int 1358 0), (.int 621 0), (.str s402 1359)]⟩), ⟨[]⟩⟩
noncomputable def o802_1063 (_ : Params) : Obj := ⟨(.type SL.s7174869446012820540x8), none, (.func ⟨s231, s482, a220, (.stmts (mAt 61 7)), c221, 3, [], .none, .none, .none, (.str s219 1278), none, (.ref 801), .none, 0⟩), ⟨[]⟩⟩
noncomputable def o803_1064 (_ : Params) : Obj := ⟨(.type SL.s2766695959194262286x5), none, (.seq ⟨[]⟩ 0), ⟨[]⟩⟩
noncomputable def o804_1065 (_ : Params) : Obj := ⟨.none, none, (.fields ⟨[]⟩), ⟨[]⟩⟩
noncomputable def o805_1066 (_ : Params) : Obj := ⟨(.type SL.s2766695959194262286x5), none, (.seq ⟨[(.str s21 1364), (.str s233 1365)]⟩ 0), ⟨[]⟩⟩
noncomputable def o806_1067 (_ : Params) : Obj := ⟨(.type SL.s2766695959194262286x5), none, (.seq ⟨[]⟩ 0), ⟨[]⟩⟩
noncomputable def s483 : Str := ⟨⟨[nat_lit 80, nat_lit 108, nat_lit 97, nat_lit 105, nat_lit 110, nat_lit 72, nat_lit 101, nat_lit 97, nat_lit 112, nat_lit 46, nat_lit 114, nat_lit 101, nat_lit 115, nat_lit 105, nat_lit 122, nat_lit 101, nat_lit 100]⟩⟩
noncomputable def o807_1068 (_ : Params) : Obj := ⟨.none, none, (.func ⟨s232, s483, a222, (.stmts (mAt 61 8)), c223, 0, [], .none, .none, .none, .none, none, .none, .none, 0⟩), ⟨[]⟩⟩
noncomputable def o808_1069 (_ : Params) : Obj := ⟨(.type SL.s5856160107412720595x4), none, (.fields ⟨[(.str s232 1361), (.str s483 1362), (.str s402 1363), (.int 624 0), (.int 2 0), (.int 0 0), (.int 0 0), (.int 3 0), (.ref 803), (.bool true), (.int 181 0), (.ref 804), .none, (.ref 805), (.ref 806), (.ref 807), (.int 1366 0), (.int 624 0), (.str s402 1367)]⟩), ⟨[]⟩⟩
noncomputable def o809_1070 (_ : Params) : Obj := ⟨(.type SL.s7174869446012820540x8), none, (.func ⟨s232, s483, a222, (.stmts (mAt 61 8)), c223, 3, [], .none, .none, .none, (.str s219 1278), none, (.ref 808), .none, 0⟩), ⟨[]⟩⟩
noncomputable def o810_1071 (_ : Params) : Obj := ⟨(.type SL.s2766695959194262286x5), none, (.seq ⟨[]⟩ 0), ⟨[]⟩⟩
noncomputable def o811_1072 (_ : Params) : Obj := ⟨.none, none, (.fields ⟨[]⟩), ⟨[]⟩⟩
noncomputable def o812_1073 (_ : Params) : Obj := ⟨(.type SL.s2766695959194262286x5), none, (.seq ⟨[(.str s21 1372), (.str s235 1373), (.str s236 1374)]⟩ 0), ⟨[]⟩⟩
noncomputable def o813_1074 (_ : Params) : Obj := ⟨(.type SL.s2766695959194262286x5), none, (.seq ⟨[]⟩ 0), ⟨[]⟩⟩
noncomputable def s484 : Str := ⟨⟨[nat_lit 80, nat_lit 108, nat_lit 97, nat_lit 105, nat_lit 110, nat_lit 72, nat_lit 101, nat_lit 97, nat_lit 112, nat_lit 46, nat_lit 98, nat_lit 97, nat_lit 114, nat_lit 114, nat_lit 105, nat_lit 101, nat_lit 114]⟩⟩
noncomputable def o814_1075 (_ : Params) : Obj := ⟨.none, none, (.func ⟨s234, s484, a224, (.stmts (mAt 61 9)), c225, 0, [], .none, .none, .none, .none, none, .none, .none, 0⟩), ⟨[]⟩⟩
noncomputable def o815_1076 (_ : Params) : Obj := ⟨(.type SL.s5856160107412720595x4), none, (.fields ⟨[(.str s234 1369), (.str s484 1370), (.str s402 1371), (.int 627 0), (.int 3 0), (.int 0 0), (.int 0 0), (.int 3 0), (.ref 810), (.bool true), (.int 181 0), (.ref 811), .none, (.ref 812), (.ref 813), (.ref 814), (.int 1375 0), (.int 627 0), (.str s402 1376)]⟩), ⟨[]⟩⟩
noncomputable def o816_1077 (_ : Params) : Obj := ⟨(.type SL.s7174869446012820540x8), none, (.func ⟨s234, s484, a224, (.stmts (mAt 61 9)), c225, 3, [], .none, .none, .none, (.str s219 1278), none, (.ref 815), .none, 0⟩), ⟨[]⟩⟩
noncomputable def o817_1078 (_ : Params) : Obj := ⟨(.type SL.s2766695959194262286x5), none, (.seq ⟨[]⟩ 0), ⟨[]⟩⟩
noncomputable def o818_1079 (_ : Params) : Obj := ⟨.none, none, (.fields ⟨[]⟩), ⟨[]⟩⟩
noncomputable def o819_1080 (_ : Params) : Obj := ⟨(.type SL.s2766695959194262286x5), none, (.seq ⟨[(.str s21 1381), (.str s233 1382)]⟩ 0), ⟨[]⟩⟩
noncomputable def o820_1081 (_ : Params) : Obj := ⟨(.type SL.s2766695959194262286x5), none, (.seq ⟨[]⟩ 0), ⟨[]⟩⟩
noncomputable def s485 : Str := ⟨⟨[nat_lit 80, nat_lit 108, nat_lit 97, nat_lit 105, nat_lit 110, nat_lit 72, nat_lit 101, nat_lit 97, nat_lit 112, nat_lit 46, nat_lit 98, nat_lit 97, nat_lit 114, nat_lit 114, nat_lit 105, nat_lit 101, nat_lit 114, nat_lit 95, nat_lit 98, nat_lit 97, nat_lit 99, nat_lit 107]⟩⟩
noncomputable def o821_1082 (_ : Params) : Obj := ⟨.none, none, (.func ⟨s237, s485, a226, (.stmts (mAt 61 10)), c227, 0, [], .none, .none, .none, .none, none, .none, .none, 0⟩), ⟨[]⟩⟩
noncomputable def o822_1083 (_ : Params) : Obj := ⟨(.type SL.s5856160107412720595x4), none, (.fields ⟨[(.str s237 1378), (.str s485 1379), (.str s402 1380), (.int 630 0), (.int 2 0), (.int 0 0), (.int 0 0), (.int 3 0), (.ref 817), (.bool true), (.int 181 0), (.ref 818), .none, (.ref 819), (.ref 820), (.ref 821), (.int 1383 0), (.int 630 0), (.str s402 1384)]⟩), ⟨[]⟩⟩
noncomputable def o823_1084 (_ : Params) : Obj := ⟨(.type SL.s7174869446012820540x8), none, (.func ⟨s237, s485, a226, (.stmts (mAt 61 10)), c227, 3, [], .none, .none, .none, (.str s219 1278), none, (.ref 822), .none, 0⟩), ⟨[]⟩⟩
noncomputable def o824_1085 (_ : Params) : Obj := ⟨(.type SL.s2766695959194262286x5), none, (.seq ⟨[]⟩ 0), ⟨[]⟩⟩
noncomputable def o825_1086 (_ : Params) : Obj := ⟨.none, none, (.fields ⟨[]⟩), ⟨[]⟩⟩
noncomputable def o826_1087 (_ : Params) : Obj := ⟨(.type SL.s2766695959194262286x5), none, (.seq ⟨[(.str s21 1389), (.str s233 1390), (.str s35 1391)]⟩ 0), ⟨[]⟩⟩
noncomputable def o827_1088 (_ : Params) : Obj := ⟨(.type SL.s2766695959194262286x5), none, (.seq ⟨[]⟩ 0), ⟨[]⟩⟩
noncomputable def s486 : Str := ⟨⟨[nat_lit 80, nat_lit 108, nat_lit 97, nat_lit 105, nat_lit 110, nat_lit 72, nat_lit 101, nat_lit 97, nat_lit 112, nat_lit 46, nat_lit 98, nat_lit 97, nat_lit 114, nat_lit 114, nat_lit 105, nat_lit 101, nat_lit 114, nat_lit 95, nat_lit 116, nat_lit 97, nat_lit 98, nat_lit 108, nat_lit 101]⟩⟩
noncomputable def o828_1089 (_ : Params) : Obj := ⟨.none, none, (.func ⟨s238, s486, a228, (.stmts (mAt 61 11)), c229, 0, [], .none, .none, .none, .none, none, .none, .none, 0⟩), ⟨[]⟩⟩
noncomputable def o829_1090 (_ : Params) : Obj := ⟨(.type SL.s5856160107412720595x4), none, (.fields ⟨[(.str s238 1386), (.str s486 1387), (.str s402 1388), (.int 633 0), (.int 3 0), (.int 0 0), (.int 0 0), (.int 3 0), (.ref 824), (.bool true), (.int 181 0), (.ref 825), .none, (.ref 826), (.ref 827), (.ref 828), (.int 1392 0), (.int 633 0), (.str s402 1393)]⟩), ⟨[]⟩⟩
noncomputable def o830_1091 (_ : Params) : Obj := ⟨(.type SL.s7174869446012820540x8), none, (.func ⟨s238, s486, a228, (.stmts (mAt 61 11)), c229, 3, [], .none, .none, .none, (.str s219 1278), none, (.ref 829), .none, 0⟩), ⟨[]⟩⟩
noncomputable def o831_1092 (_ : Params) : Obj := ⟨(.type SL.s2766695959194262286x5), none, (.seq ⟨[]⟩ 0), ⟨[]⟩⟩
noncomputable def o832_1093 (_ : Params) : Obj := ⟨.none, none, (.fields ⟨[]⟩), ⟨[]⟩⟩
noncomputable def o833_1094 (_ : Params) : Obj := ⟨(.type SL.s2766695959194262286x5), none, (.seq ⟨[(.str s21 1398), (.str s65 1399)]⟩ 0), ⟨[]⟩⟩
noncomputable def o834_1095 (_ : Params) : Obj := ⟨(.type SL.s2766695959194262286x5), none, (.seq ⟨[]⟩ 0), ⟨[]⟩⟩
noncomputable def s487 : Str := ⟨⟨[nat_lit 80, nat_lit 108, nat_lit 97, nat_lit 105, nat_lit 110, nat_lit 72, nat_lit 101, nat_lit 97, nat_lit 112, nat_lit 46, nat_lit 99, nat_lit 104, nat_lit 101, nat_lit 99, nat_lit 107]⟩⟩
noncomputable def o835_1096 (_ : Params) : Obj := ⟨.none, none, (.func ⟨s239, s487, a230, (.stmts (mAt 61 12)), c83, 0, [], .none, .none, .none, .none, none, .none, .none, 0⟩), ⟨[]⟩⟩
noncomputable def o836_1097 (_ : Params) : Obj := ⟨(.type SL.s5856160107412720595x4), none, (.fields ⟨[(.str s239 1395), (.str s487 1396), (.str s402 1397), (.int 636 0), (.int 2 0), (.int 0 0), (.int 0 0), (.int 3 0), (.ref 831), (.bool true), (.int 181 0), (.ref 832), .none, (.ref 833), (.ref 834), (.ref 835), (.int 1400 0), (.int 636 0), (.str s402 1401)]⟩), ⟨[]⟩⟩
noncomputable def o837_1098 (_ : Params) : Obj := ⟨(.type SL.s7174869446012820540x8), none, (.func ⟨s239, s487, a230, (.stmts (mAt 61 12)), c83, 3, [], .none, .none, .none, (.str s219 1278), none, (.ref 836), .none, 0⟩), ⟨[]⟩⟩
noncomputable def o838_1099 (_ : Params) : Obj := ⟨(.type SL.s2766695959194262286x5), none, (.seq ⟨[(.str s131 1403), (.str s187 1404)]⟩ 0), ⟨[]⟩⟩
noncomputable def o839_1100 (P : Params) : Obj := ⟨(.type SL.s14018661285674007319x4), none, (.dict ⟨[⟨(PySem.PyData.keyHash P s407), (.str s407 1287), (.str s219 1278)⟩, ⟨(PySem.PyData.keyHash P s409), (.str s409 1291), (.int 592 1290)⟩, ⟨(PySem.PyData.keyHash P s20), (.str s20 1298), (.ref 753)⟩, ⟨(PySem.PyData.keyHash P s221), (.str s221 1307), (.ref 760)⟩, ⟨(PySem.PyData.keyHash P s223), (.str s223 1316), (.ref 767)⟩, ⟨(PySem.PyData.keyHash P s224), (.str s224 1326), (.ref 774)⟩, ⟨(PySem.PyData.keyHash P s228), (.str s228 1336), (.ref 781)⟩, ⟨(PySem.PyData.keyHash P s229), (.str s229 1344), (.ref 788)⟩, ⟨(PySem.PyData.keyHash P s230), (.str s230 1352), (.ref 795)⟩, ⟨(PySem.PyData.keyHash P s231), (.str s231 1360), (.ref 802)⟩, ⟨(PySem.PyData.keyHash P s232), (.str s232 1368), (.ref 809)⟩, ⟨(PySem.PyData.keyHash P s234), (.str s234 1377), (.ref 816)⟩, ⟨(PySem.PyData.keyHash P s237), (.str s237 1385), (.ref 823)⟩, ⟨(PySem.PyData.keyHash P s238), (.str s238 1394), (.ref 830)⟩, ⟨(PySem.PyData.keyHash P s239), (.str s239 1402), (.ref 837)⟩, ⟨(PySem.PyData.keyHash P s410), (.str s410 1405), (.ref 838)⟩, ⟨(PySem.PyData.keyHash P s414), (.str s414 1407), (.ref 841)⟩, ⟨(PySem.PyData.keyHash P s415), (.str s415 1409), (.ref 842)⟩, ⟨(PySem.PyData.keyHash P s256), (.str s256 1410), .none⟩]⟩ 4), ⟨[]⟩⟩
noncomputable def o840_1101 (_ : Params) : Obj := ⟨(.type SL.s17162191345867700912x4), none, (.cls ⟨s220, [(.type SL.s2742458400755230247x6)], [(.ref 840), (.type SL.s2742458400755230247x6)], 839, s220, true, [], [], false, none, false⟩), ⟨[none, none, (some (.str s220 1280)), (some (.str s220 1288)), (some (.builtin SL.s11443829558043349243x14)), (some (.bool true))]⟩⟩
noncomputable def o841_1102 (_ : Params) : Obj := ⟨(.type SL.s14755015743595814543x17), none, (.fields ⟨[(.str s414 1406), (.ref 840), (.builtin SL.s6511155373996960695x17), (.builtin SL.s12411053484034534018x21)]⟩), ⟨[]⟩⟩
noncomputable def o842_1103 (_ : Params) : Obj := ⟨(.type SL.s14755015743595814543x17), none, (.fields ⟨[(.str s415 1408), (.ref 840), (.builtin SL.s10220274742760427390x26), .none]⟩), ⟨[]⟩⟩
noncomputable def o843_1104 (_ : Params) : Obj := ⟨(.type SL.s4290257624100764138x5), none, (.fields ⟨[(.ref 840), (.ref 840), (.ref 840)]⟩), ⟨[]⟩⟩
noncomputable def o844_1105 (_ : Params) : Obj := ⟨(.type SL.s11030030927630378310x26), none, (.fields ⟨[(.builtin SL.s4860613602091757760x24), (.ref 840)]⟩), ⟨[]⟩⟩
noncomputable def T7 (P : Params) : BT := (.node (o0_243 P) (.node (o1_244 P) (.node (o3_999 P) (.node (o7_250 P) (.node (o15_261 P) (.node (o31_277 P) (.node (o63_309 P) (.node (o127_375 P) (.node (o255_509 P) (.node (o511_770 P) .nil .nil) (.node (o767_1028 P) .nil .nil)) (.node (o383_637 P) (.node (o639_898 P) .nil .nil) .nil)) (.node (o191_442 P) (.node (o319_573 P) (.node (o575_834 P) .nil .nil) (.node (o831_1092 P) .nil .nil)) (.node (o447_703 P) (.node (o703_962 P) .nil .nil) .nil))) (.node (o95_343 P) (.node (o159_407 P) (.node (o287_541 P) (.node (o543_802 P) .nil .nil) (.node (o799_1060 P) .nil .nil)) (.node (o415_671 P) (.node (o671_930 P) .nil .nil) .nil)) (.node (o223_474 P) (.node (o351_605 P) (.node (o607_866 P) .nil .nil) .nil) (.node (o479_735 P) (.node (o735_994 P) .nil .nil) .nil)))) (.node (o47_293 P) (.node (o79_325 P) (.node (o143_391 P) (.node (o271_525 P) (.node (o527_786 P) .nil .nil) (.node (o783_1044 P) .nil .nil)) (.node (o399_653 P) (.node (o655_914 P) .nil .nil) .nil)) (.node (o207_458 P) (.node (o335_589 P) (.node (o591_850 P) .nil .nil) .nil) (.node (o463_719 P) (.node (o719_978 P) .nil .nil) .nil))) (.node (o111_359 P) (.node (o175_426 P) (.node (o303_557 P) (.node (o559_818 P) .nil .nil) (.node (o815_1076 P) .nil .nil)) (.node (o431_687 P) (.node (o687_946 P) .nil .nil) .nil)) (.node (o239_490 P) (.node (o367_621 P) (.node (o623_882 P) .nil .nil) .nil) (.node (o495_754 P) (.node (o751_1012 P) .nil .nil) .nil))))) (.node (o23_269 P) (.node (o39_285 P) (.node (o71_317 P) (.node (o135_383 P) (.node (o263_517 P) (.node (o519_778 P) .nil .nil) (.node (o775_1036 P) .nil .nil)) (.node (o391_645 P) (.node (o647_906 P) .nil .nil) .nil)) (.node (o199_450 P) (.node (o327_581 P) (.node (o583_842 P) .nil .nil) (.node (o839_1100 P) .nil .nil)) (.node (o455_711 P) (.node (o711_970 P) .nil .nil) .nil))) (.node (o103_351 P) (.node (o167_418 P) (.node (o295_549 P) (.node (o551_810 P) .nil .nil) (.node (o807_1068 P) .nil .nil)) (.node (o423_679 P) (.node (o679_938 P) .nil .nil) .nil)) (.node (o231_482 P) (.node (o359_613 P) (.node (o615_874 P) .nil .nil) .nil) (.node (o487_746 P) (.node (o743_1004 P) .nil .nil) .nil)))) (.node (o55_301 P) (.node (o87_335 P) (.node (o151_399 P) (.node (o279_533 P) (.node (o535_794 P) .nil .nil) (.node (o791_1052 P) .nil .nil)) (.node (o407_663 P) (.node (o663_922 P) .nil .nil) .nil)) (.node (o215_466 P) (.node (o343_597 P) (.node (o599_858 P) .nil .nil) .nil) (.node (o471_727 P) (.node (o727_986 P) .nil .nil) .nil))) (.node (o119_367 P) (.node (o183_434 P) (.node (o311_565 P) (.node (o567_826 P) .nil .nil) (.node (o823_1084 P) .nil .nil)) (.node (o439_695 P) (.node (o695_954 P) .nil .nil) .nil)) (.node (o247_501 P) (.node (o375_629 P) (.node (o631_890 P) .nil .nil) .nil) (.node (o503_762 P) (.node (o759_1020 P) .nil .nil) .nil)))))) (.node (o11_254 P) (.node (o19_265 P) (.node (o35_281 P) (.node (o67_313 P) (.node (o131_379 P) (.node (o259_513 P) (.node (o515_774 P) .nil .nil) (.node (o771_1032 P) .nil .nil)) (.node (o387_641 P) (.node (o643_902 P) .nil .nil) .nil)) (.node (o195_446 P) (.node (o323_577 P) (.node (o579_838 P) .nil .nil) (.node (o835_1096 P) .nil .nil)) (.node (o451_707 P) (.node (o707_966 P) .nil .nil) .nil))) (.node (o99_347 P) (.node (o163_414 P) (.node (o291_545 P) (.node (o547_806 P) .nil .nil) (.node (o803_1064 P) .nil .nil)) (.node (o419_675 P) (.node (o675_934 P) .nil .nil) .nil)) (.node (o227_478 P) (.node (o355_609 P) (.node (o611_870 P) .nil .nil) .nil) (.node (o483_742 P) (.node (o739_998 P) .nil .nil) .nil)))) (.node (o51_297 P) (.node (o83_329 P) (.node (o147_395 P) (.node (o275_529 P) (.node (o531_790 P) .nil .nil) (.node (o787_1048 P) .nil .nil)) (.node (o403_657 P) (.node (o659_918 P) .nil .nil) .nil)) (.node (o211_462 P) (.node (o339_593 P) (.node (o595_854 P) .nil .nil) .nil) (.node (o467_723 P) (.node (o723_982 P) .nil .nil) .nil))) (.node (o115_363 P) (.node (o179_430 P) (.node (o307_561 P) (.node (o563_822 P) .nil .nil) (.node (o819_1080 P) .nil .nil)) (.node (o435_691 P) (.node (o691_950 P) .nil .nil) .nil)) (.node (o243_494 P) (.node (o371_625 P) (.node (o627_886 P) .nil .nil) .nil) (.node (o499_758 P) (.node (o755_1016 P) .nil .nil) .nil))))) (.node (o27_273 P) (.node (o43_289 P) (.node (o75_321 P) (.node (o139_387 P) (.node (o267_521 P) (.node (o523_782 P) .nil .nil) (.node (o779_1040 P) .nil .nil)) (.node (o395_649 P) (.node (o651_910 P) .nil .nil) .nil)) (.node (o203_454 P) (.node (o331_585 P) (.node (o587_846 P) .nil .nil) (.node (o843_1104 P) .nil .nil)) (.node (o459_715 P) (.node (o715_974 P) .nil .nil) .nil))) (.node (o107_355 P) (.node (o171_422 P) (.node (o299_553 P) (.node (o555_814 P) .nil .nil) (.node (o811_1072 P) .nil .nil)) (.node (o427_683 P) (.node (o683_942 P) .nil .nil) .nil)) (.node (o235_486 P) (.node (o363_617 P) (.node (o619_878 P) .nil .nil) .nil) (.node (o491_750 P) (.node (o747_1008 P) .nil .nil) .nil)))) (.node (o59_305 P) (.node (o91_339 P) (.node (o155_403 P) (.node (o283_537 P) (.node (o539_798 P) .nil .nil) (.node (o795_1056 P) .nil .nil)) (.node (o411_667 P) (.node (o667_926 P) .nil .nil) .nil)) (.node (o219_470 P) (.node (o347_601 P) (.node (o603_862 P) .nil .nil) .nil) (.node (o475_731 P) (.node (o731_990 P) .nil .nil) .nil))) (.node (o123_371 P) (.node (o187_438 P) (.node (o315_569 P) (.node (o571_830 P) .nil .nil) (.node (o827_1088 P) .nil .nil)) (.node (o443_699 P) (.node (o699_958 P) .nil .nil) .nil)) (.node (o251_505 P) (.node (o379_633 P) (.node (o635_894 P) .nil .nil) .nil) (.node (o507_766 P) (.node (o763_1024 P) .nil .nil) .nil))))))) (.node (o5_248 P) (.node (o9_252 P) (.node (o17_263 P) (.node (o33_279 P) (.node (o65_311 P) (.node (o129_377 P) (.node (o257_511 P) (.node (o513_772 P) .nil .nil) (.node (o769_1030 P) .nil .nil)) (.node (o385_639 P) (.node (o641_900 P) .nil .nil) .nil)) (.node (o193_444 P) (.node (o321_575 P) (.node (o577_836 P) .nil .nil) (.node (o833_1094 P) .nil .nil)) (.node (o449_705 P) (.node (o705_964 P) .nil .nil) .nil))) (.node (o97_345 P) (.node (o161_409 P) (.node (o289_543 P) (.node (o545_804 P) .nil .nil) (.node (o801_1062 P) .nil .nil)) (.node (o417_673 P) (.node (o673_932 P) .nil .nil) .nil)) (.node (o225_476 P) (.node (o353_607 P) (.node (o609_868 P) .nil .nil) .nil) (.node (o481_737 P) (.node (o737_996 P) .nil .nil) .nil)))) (.node (o49_295 P) (.node (o81_327 P) (.node (o145_393 P) (.node (o273_527 P) (.node (o529_788 P) .nil .nil) (.node (o785_1046 P) .nil .nil)) (.node (o401_655 P) (.node (o657_916 P) .nil .nil) .nil)) (.node (o209_460 P) (.node (o337_591 P) (.node (o593_852 P) .nil .nil) .nil) (.node (o465_721 P) (.node (o721_980 P) .nil .nil) .nil))) (.node (o113_361 P) (.node (o177_428 P) (.node (o305_559 P) (.node (o561_820 P) .nil .nil) (.node (o817_1078 P) .nil .nil)) (.node (o433_689 P) (.node (o689_948 P) .nil .nil) .nil)) (.node (o241_492 P) (.node (o369_623 P) (.node (o625_884 P) .nil .nil) .nil) (.node (o497_756 P) (.node (o753_1014 P) .nil .nil) .nil))))) (.node (o25_271 P) (.node (o41_287 P) (.node (o73_319 P) (.node (o137_385 P) (.node (o265_519 P) (.node (o521_780 P) .nil .nil) (.node (o777_1038 P) .nil .nil)) (.node (o393_647 P) (.node (o649_908 P) .nil .nil) .nil)) (.node (o201_452 P) (.node (o329_583 P) (.node (o585_844 P) .nil .nil) (.node (o841_1102 P) .nil .nil)) (.node (o457_713 P) (.node (o713_972 P) .nil .nil) .nil))) (.node (o105_353 P) (.node (o169_420 P) (.node (o297_551 P) (.node (o553_812 P) .nil .nil) (.node (o809_1070 P) .nil .nil)) (.node (o425_681 P) (.node (o681_940 P) .nil .nil) .nil)) (.node (o233_484 P) (.node (o361_615 P) (.node (o617_876 P) .nil .nil) .nil) (.node (o489_748 P) (.node (o745_1006 P) .nil .nil) .nil)))) (.node (o57_303 P) (.node (o89_337 P) (.node (o153_401 P) (.node (o281_535 P) (.node (o537_796 P) .nil .nil) (.node (o793_1054 P) .nil .nil)) (.node (o409_665 P) (.node (o665_924 P) .nil .nil) .nil)) (.node (o217_468 P) (.node (o345_599 P) (.node (o601_860 P) .nil .nil) .nil) (.node (o473_729 P) (.node (o729_988 P) .nil .nil) .nil))) (.node (o121_369 P) (.node (o185_436 P) (.node (o313_567 P) (.node (o569_828 P) .nil .nil) (.node (o825_1086 P) .nil .nil)) (.node (o441_697 P) (.node (o697_956 P) .nil .nil) .nil)) (.node (o249_503 P) (.node (o377_631 P) (.node (o633_892 P) .nil .nil) .nil) (.node (o505_764 P) (.node (o761_1022 P) .nil .nil) .nil)))))) (.node (o13_256 P) (.node (o21_267 P) (.node (o37_283 P) (.node (o69_315 P) (.node (o133_381 P) (.node (o261_515 P) (.node (o517_776 P) .nil .nil) (.node (o773_1034 P) .nil .nil)) (.node (o389_643 P) (.node (o645_904 P) .nil .nil) .nil)) (.node (o197_448 P) (.node (o325_579 P) (.node (o581_840 P) .nil .nil) (.node (o837_1098 P) .nil .nil)) (.node (o453_709 P) (.node (o709_968 P) .nil .nil) .nil))) (.node (o101_741 P) (.node (o165_416 P) (.node (o293_547 P) (.node (o549_808 P) .nil .nil) (.node (o805_1066 P) .nil .nil)) (.node (o421_677 P) (.node (o677_936 P) .nil .nil) .nil)) (.node (o229_480 P) (.node (o357_611 P) (.node (o613_872 P) .nil .nil) .nil) (.node (o485_744 P) (.node (o741_1002 P) .nil .nil) .nil)))) (.node (o53_299 P) (.node (o85_333 P) (.node (o149_397 P) (.node (o277_531 P) (.node (o533_792 P) .nil .nil) (.node (o789_1050 P) .nil .nil)) (.node (o405_659 P) (.node (o661_920 P) .nil .nil) .nil)) (.node (o213_464 P) (.node (o341_595 P) (.node (o597_856 P) .nil .nil) .nil) (.node (o469_725 P) (.node (o725_984 P) .nil .nil) .nil))) (.node (o117_365 P) (.node (o181_432 P) (.node (o309_563 P) (.node (o565_824 P) .nil .nil) (.node (o821_1082 P) .nil .nil)) (.node (o437_693 P) (.node (o693_952 P) .nil .nil) .nil)) (.node (o245_499 P) (.node (o373_627 P) (.node (o629_888 P) .nil .nil) .nil) (.node (o501_760 P) (.node (o757_1018 P) .nil .nil) .nil))))) (.node (o29_275 P) (.node (o45_291 P) (.node (o77_323 P) (.node (o141_389 P) (.node (o269_523 P) (.node (o525_784 P) .nil .nil) (.node (o781_1042 P) .nil .nil)) (.node (o397_651 P) (.node (o653_912 P) .nil .nil) .nil)) (.node (o205_456 P) (.node (o333_587 P) (.node (o589_848 P) .nil .nil) .nil) (.node (o461_717 P) (.node (o717_976 P) .nil .nil) .nil))) (.node (o109_357 P) (.node (o173_424 P) (.node (o301_555 P) (.node (o557_816 P) .nil .nil) (.node (o813_1074 P) .nil .nil)) (.node (o429_685 P) (.node (o685_944 P) .nil .nil) .nil)) (.node (o237_488 P) (.node (o365_619 P) (.node (o621_880 P) .nil .nil) .nil) (.node (o493_752 P) (.node (o749_1010 P) .nil .nil) .nil)))) (.node (o61_307 P) (.node (o93_341 P) (.node (o157_405 P) (.node (o285_539 P) (.node (o541_800 P) .nil .nil) (.node (o797_1058 P) .nil .nil)) (.node (o413_669 P) (.node (o669_928 P) .nil .nil) .nil)) (.node (o221_472 P) (.node (o349_603 P) (.node (o605_864 P) .nil .nil) .nil) (.node (o477_733 P) (.node (o733_992 P) .nil .nil) .nil))) (.node (o125_373 P) (.node (o189_440 P) (.node (o317_571 P) (.node (o573_832 P) .nil .nil) (.node (o829_1090 P) .nil .nil)) (.node (o445_701 P) (.node (o701_960 P) .nil .nil) .nil)) (.node (o253_507 P) (.node (o381_635 P) (.node (o637_896 P) .nil .nil) .nil) (.node (o509_768 P) (.node (o765_1026 P) .nil .nil) .nil)))))))) (.node (o2_258 P) (.node (o4_247 P) (.node (o8_251 P) (.node (o16_262 P) (.node (o32_278 P) (.node (o64_310 P) (.node (o128_376 P) (.node (o256_510 P) (.node (o512_771 P) .nil .nil) (.node (o768_1029 P) .nil .nil)) (.node (o384_638 P) (.node (o640_899 P) .nil .nil) .nil)) (.node (o192_443 P) (.node (o320_574 P) (.node (o576_835 P) .nil .nil) (.node (o832_1093 P) .nil .nil)) (.node (o448_704 P) (.node (o704_963 P) .nil .nil) .nil))) (.node (o96_344 P) (.node (o160_408 P) (.node (o288_542 P) (.node (o544_803 P) .nil .nil) (.node (o800_1061 P) .nil .nil)) (.node (o416_672 P) (.node (o672_931 P) .nil .nil) .nil)) (.node (o224_475 P) (.node (o352_606 P) (.node (o608_867 P) .nil .nil) .nil) (.node (o480_736 P) (.node (o736_995 P) .nil .nil) .nil)))) (.node (o48_294 P) (.node (o80_326 P) (.node (o144_392 P) (.node (o272_526 P) (.node (o528_787 P) .nil .nil) (.node (o784_1045 P) .nil .nil)) (.node (o400_654 P) (.node (o656_915 P) .nil .nil) .nil)) (.node (o208_459 P) (.node (o336_590 P) (.node (o592_851 P) .nil .nil) .nil) (.node (o464_720 P) (.node (o720_979 P) .nil .nil) .nil))) (.node (o112_360 P) (.node (o176_427 P) (.node (o304_558 P) (.node (o560_819 P) .nil .nil) (.node (o816_1077 P) .nil .nil)) (.node (o432_688 P) (.node (o688_947 P) .nil .nil) .nil)) (.node (o240_491 P) (.node (o368_622 P) (.node (o624_883 P) .nil .nil) .nil) (.node (o496_755 P) (.node (o752_1013 P) .nil .nil) .nil))))) (.node (o24_270 P) (.node (o40_286 P) (.node (o72_318 P) (.node (o136_384 P) (.node (o264_518 P) (.node (o520_779 P) .nil .nil) (.node (o776_1037 P) .nil .nil)) (.node (o392_646 P) (.node (o648_907 P) .nil .nil) .nil)) (.node (o200_451 P) (.node (o328_582 P) (.node (o584_843 P) .nil .nil) (.node (o840_1101 P) .nil .nil)) (.node (o456_712 P) (.node (o712_971 P) .nil .nil) .nil))) (.node (o104_352 P) (.node (o168_419 P) (.node (o296_550 P) (.node (o552_811 P) .nil .nil) (.node (o808_1069 P) .nil .nil)) (.node (o424_680 P) (.node (o680_939 P) .nil .nil) .nil)) (.node (o232_483 P) (.node (o360_614 P) (.node (o616_875 P) .nil .nil) .nil) (.node (o488_747 P) (.node (o744_1005 P) .nil .nil) .nil)))) (.node (o56_302 P) (.node (o88_336 P) (.node (o152_400 P) (.node (o280_534 P) (.node (o536_795 P) .nil .nil) (.node (o792_1053 P) .nil .nil)) (.node (o408_664 P) (.node (o664_923 P) .nil .nil) .nil)) (.node (o216_467 P) (.node (o344_598 P) (.node (o600_859 P) .nil .nil) .nil) (.node (o472_728 P) (.node (o728_987 P) .nil .nil) .nil))) (.node (o120_368 P) (.node (o184_435 P) (.node (o312_566 P) (.node (o568_827 P) .nil .nil) (.node (o824_1085 P) .nil .nil)) (.node (o440_696 P) (.node (o696_955 P) .nil .nil) .nil)) (.node (o248_502 P) (.node (o376_630 P) (.node (o632_891 P) .nil .nil) .nil) (.node (o504_763 P) (.node (o760_1021 P) .nil .nil) .nil)))))) (.node (o12_1000 P) (.node (o20_266 P) (.node (o36_282 P) (.node (o68_314 P) (.node (o132_380 P) (.node (o260_514 P) (.node (o516_775 P) .nil .nil) (.node (o772_1033 P) .nil .nil)) (.node (o388_642 P) (.node (o644_903 P) .nil .nil) .nil)) (.node (o196_447 P) (.node (o324_578 P) (.node (o580_839 P) .nil .nil) (.node (o836_1097 P) .nil .nil)) (.node (o452_708 P) (.node (o708_967 P) .nil .nil) .nil))) (.node (o100_348 P) (.node (o164_415 P) (.node (o292_546 P) (.node (o548_807 P) .nil .nil) (.node (o804_1065 P) .nil .nil)) (.node (o420_676 P) (.node (o676_935 P) .nil .nil) .nil)) (.node (o228_479 P) (.node (o356_610 P) (.node (o612_871 P) .nil .nil) .nil) (.node (o484_743 P) (.node (o740_1001 P) .nil .nil) .nil)))) (.node (o52_298 P) (.node (o84_330 P) (.node (o148_396 P) (.node (o276_530 P) (.node (o532_791 P) .nil .nil) (.node (o788_1049 P) .nil .nil)) (.node (o404_658 P) (.node (o660_919 P) .nil .nil) .nil)) (.node (o212_463 P) (.node (o340_594 P) (.node (o596_855 P) .nil .nil) .nil) (.node (o468_724 P) (.node (o724_983 P) .nil .nil) .nil))) (.node (o116_364 P) (.node (o180_431 P) (.node (o308_562 P) (.node (o564_823 P) .nil .nil) (.node (o820_1081 P) .nil .nil)) (.node (o436_692 P) (.node (o692_951 P) .nil .nil) .nil)) (.node (o244_495 P) (.node (o372_626 P) (.node (o628_887 P) .nil .nil) .nil) (.node (o500_759 P) (.node (o756_1017 P) .nil .nil) .nil))))) (.node (o28_274 P) (.node (o44_290 P) (.node (o76_322 P) (.node (o140_388 P) (.node (o268_522 P) (.node (o524_783 P) .nil .nil) (.node (o780_1041 P) .nil .nil)) (.node (o396_650 P) (.node (o652_911 P) .nil .nil) .nil)) (.node (o204_455 P) (.node (o332_586 P) (.node (o588_847 P) .nil .nil) (.node (o844_1105 P) .nil .nil)) (.node (o460_716 P) (.node (o716_975 P) .nil .nil) .nil))) (.node (o108_356 P) (.node (o172_423 P) (.node (o300_554 P) (.node (o556_815 P) .nil .nil) (.node (o812_1073 P) .nil .nil)) (.node (o428_684 P) (.node (o684_943 P) .nil .nil) .nil)) (.node (o236_487 P) (.node (o364_618 P) (.node (o620_879 P) .nil .nil) .nil) (.node (o492_751 P) (.node (o748_1009 P) .nil .nil) .nil)))) (.node (o60_306 P) (.node (o92_340 P) (.node (o156_404 P) (.node (o284_538 P) (.node (o540_799 P) .nil .nil) (.node (o796_1057 P) .nil .nil)) (.node (o412_668 P) (.node (o668_927 P) .nil .nil) .nil)) (.node (o220_471 P) (.node (o348_602 P) (.node (o604_863 P) .nil .nil) .nil) (.node (o476_732 P) (.node (o732_991 P) .nil .nil) .nil))) (.node (o124_372 P) (.node (o188_439 P) (.node (o316_570 P) (.node (o572_831 P) .nil .nil) (.node (o828_1089 P) .nil .nil)) (.node (o444_700 P) (.node (o700_959 P) .nil .nil) .nil)) (.node (o252_506 P) (.node (o380_634 P) (.node (o636_895 P) .nil .nil) .nil) (.node (o508_767 P) (.node (o764_1025 P) .nil .nil) .nil))))))) (.node (o6_249 P) (.node (o10_253 P) (.node (o18_264 P) (.node (o34_280 P) (.node (o66_312 P) (.node (o130_378 P) (.node (o258_512 P) (.node (o514_773 P) .nil .nil) (.node (o770_1031 P) .nil .nil)) (.node (o386_640 P) (.node (o642_901 P) .nil .nil) .nil)) (.node (o194_445 P) (.node (o322_576 P) (.node (o578_837 P) .nil .nil) (.node (o834_1095 P) .nil .nil)) (.node (o450_706 P) (.node (o706_965 P) .nil .nil) .nil))) (.node (o98_346 P) (.node (o162_413 P) (.node (o290_544 P) (.node (o546_805 P) .nil .nil) (.node (o802_1063 P) .nil .nil)) (.node (o418_674 P) (.node (o674_933 P) .nil .nil) .nil)) (.node (o226_477 P) (.node (o354_608 P) (.node (o610_869 P) .nil .nil) .nil) (.node (o482_738 P) (.node (o738_997 P) .nil .nil) .nil)))) (.node (o50_296 P) (.node (o82_328 P) (.node (o146_394 P) (.node (o274_528 P) (.node (o530_789 P) .nil .nil) (.node (o786_1047 P) .nil .nil)) (.node (o402_656 P) (.node (o658_917 P) .nil .nil) .nil)) (.node (o210_461 P) (.node (o338_592 P) (.node (o594_853 P) .nil .nil) .nil) (.node (o466_722 P) (.node (o722_981 P) .nil .nil) .nil))) (.node (o114_362 P) (.node (o178_429 P) (.node (o306_560 P) (.node (o562_821 P) .nil .nil) (.node (o818_1079 P) .nil .nil)) (.node (o434_690 P) (.node (o690_949 P) .nil .nil) .nil)) (.node (o242_493 P) (.node (o370_624 P) (.node (o626_885 P) .nil .nil) .nil) (.node (o498_757 P) (.node (o754_1015 P) .nil .nil) .nil))))) (.node (o26_272 P) (.node (o42_288 P) (.node (o74_320 P) (.node (o138_386 P) (.node (o266_520 P) (.node (o522_781 P) .nil .nil) (.node (o778_1039 P) .nil .nil)) (.node (o394_648 P) (.node (o650_909 P) .nil .nil) .nil)) (.node (o202_453 P) (.node (o330_584 P) (.node (o586_845 P) .nil .nil) (.node (o842_1103 P) .nil .nil)) (.node (o458_714 P) (.node (o714_973 P) .nil .nil) .nil))) (.node (o106_354 P) (.node (o170_421 P) (.node (o298_552 P) (.node (o554_813 P) .nil .nil) (.node (o810_1071 P) .nil .nil)) (.node (o426_682 P) (.node (o682_941 P) .nil .nil) .nil)) (.node (o234_485 P) (.node (o362_616 P) (.node (o618_877 P) .nil .nil) .nil) (.node (o490_749 P) (.node (o746_1007 P) .nil .nil) .nil)))) (.node (o58_304 P) (.node (o90_338 P) (.node (o154_402 P) (.node (o282_536 P) (.node (o538_797 P) .nil .nil) (.node (o794_1055 P) .nil .nil)) (.node (o410_666 P) (.node (o666_925 P) .nil .nil) .nil)) (.node (o218_469 P) (.node (o346_600 P) (.node (o602_861 P) .nil .nil) .nil) (.node (o474_730 P) (.node (o730_989 P) .nil .nil) .nil))) (.node (o122_370 P) (.node (o186_437 P) (.node (o314_568 P) (.node (o570_829 P) .nil .nil) (.node (o826_1087 P) .nil .nil)) (.node (o442_698 P) (.node (o698_957 P) .nil .nil) .nil)) (.node (o250_504 P) (.node (o378_632 P) (.node (o634_893 P) .nil .nil) .nil) (.node (o506_765 P) (.node (o762_1023 P) .nil .nil) .nil)))))) (.node (o14_257 P) (.node (o22_268 P) (.node (o38_284 P) (.node (o70_316 P) (.node (o134_382 P) (.node (o262_516 P) (.node (o518_777 P) .nil .nil) (.node (o774_1035 P) .nil .nil)) (.node (o390_644 P) (.node (o646_905 P) .nil .nil) .nil)) (.node (o198_449 P) (.node (o326_580 P) (.node (o582_841 P) .nil .nil) (.node (o838_1099 P) .nil .nil)) (.node (o454_710 P) (.node (o710_969 P) .nil .nil) .nil))) (.node (o102_350 P) (.node (o166_417 P) (.node (o294_548 P) (.node (o550_809 P) .nil .nil) (.node (o806_1067 P) .nil .nil)) (.node (o422_678 P) (.node (o678_937 P) .nil .nil) .nil)) (.node (o230_481 P) (.node (o358_612 P) (.node (o614_873 P) .nil .nil) .nil) (.node (o486_745 P) (.node (o742_1003 P) .nil .nil) .nil)))) (.node (o54_300 P) (.node (o86_334 P) (.node (o150_398 P) (.node (o278_532 P) (.node (o534_793 P) .nil .nil) (.node (o790_1051 P) .nil .nil)) (.node (o406_662 P) (.node (o662_921 P) .nil .nil) .nil)) (.node (o214_465 P) (.node (o342_596 P) (.node (o598_857 P) .nil .nil) .nil) (.node (o470_726 P) (.node (o726_985 P) .nil .nil) .nil))) (.node (o118_366 P) (.node (o182_433 P) (.node (o310_564 P) (.node (o566_825 P) .nil .nil) (.node (o822_1083 P) .nil .nil)) (.node (o438_694 P) (.node (o694_953 P) .nil .nil) .nil)) (.node (o246_500 P) (.node (o374_628 P) (.node (o630_889 P) .nil .nil) .nil) (.node (o502_761 P) (.node (o758_1019 P) .nil .nil) .nil))))) (.node (o30_276 P) (.node (o46_292 P) (.node (o78_324 P) (.node (o142_390 P) (.node (o270_524 P) (.node (o526_785 P) .nil .nil) (.node (o782_1043 P) .nil .nil)) (.node (o398_652 P) (.node (o654_913 P) .nil .nil) .nil)) (.node (o206_457 P) (.node (o334_588 P) (.node (o590_849 P) .nil .nil) .nil) (.node (o462_718 P) (.node (o718_977 P) .nil .nil) .nil))) (.node (o110_358 P) (.node (o174_425 P) (.node (o302_556 P) (.node (o558_817 P) .nil .nil) (.node (o814_1075 P) .nil .nil)) (.node (o430_686 P) (.node (o686_945 P) .nil .nil) .nil)) (.node (o238_489 P) (.node (o366_620 P) (.node (o622_881 P) .nil .nil) .nil) (.node (o494_753 P) (.node (o750_1011 P) .nil .nil) .nil)))) (.node (o62_308 P) (.node (o94_342 P) (.node (o158_406 P) (.node (o286_540 P) (.node (o542_801 P) .nil .nil) (.node (o798_1059 P) .nil .nil)) (.node (o414_670 P) (.node (o670_929 P) .nil .nil) .nil)) (.node (o222_473 P) (.node (o350_604 P) (.node (o606_865 P) .nil .nil) .nil) (.node (o478_734 P) (.node (o734_993 P) .nil .nil) .nil))) (.node (o126_374 P) (.node (o190_441 P) (.node (o318_572 P) (.node (o574_833 P) .nil .nil) (.node (o830_1091 P) .nil .nil)) (.node (o446_702 P) (.node (o702_961 P) .nil .nil) .nil)) (.node (o254_508 P) (.node (o382_636 P) (.node (o638_897 P) .nil .nil) .nil) (.node (o510_769 P) (.node (o766_1027 P) .nil .nil) .nil)))))))))
noncomputable def o3_1106 (P : Params) : Obj := ⟨(.type SL.s14018661285674007319x4), none, (.dict ⟨[⟨(PySem.PyData.keyHash P s2), (.str s2 165), (.str s240 1413)⟩, ⟨(PySem.PyData.keyHash P s256), (.str s256 166), .none⟩, ⟨(PySem.PyData.keyHash P s257), (.str s257 167), .none⟩, ⟨(PySem.PyData.keyHash P s258), (.str s258 168), (.builtin SL.s7097527257260152453x26)⟩, ⟨(PySem.PyData.keyHash P s259), (.str s259 169), .none⟩, ⟨(PySem.PyData.keyHash P s399), (.str s399 170), (.ref 6)⟩, ⟨(PySem.PyData.keyHash P s400), (.str s400 171), (.ref 4)⟩, ⟨(PySem.PyData.keyHash P s401), (.str s401 173), (.str s402 172)⟩, ⟨(PySem.PyData.keyHash P s403), (.str s403 174), .none⟩, ⟨(PySem.PyData.keyHash P s0), (.str s0 193), (.ref 21)⟩, ⟨(PySem.PyData.keyHash P s4), (.str s4 203), (.ref 28)⟩, ⟨(PySem.PyData.keyHash P s9), (.str s9 208), (.int (-1) 207)⟩, ⟨(PySem.PyData.keyHash P s10), (.str s10 210), (.int 0 209)⟩, ⟨(PySem.PyData.keyHash P s11), (.str s11 212), (.int 1 211)⟩, ⟨(PySem.PyData.keyHash P s12), (.str s12 214), (.int 2 213)⟩, ⟨(PySem.PyData.keyHash P s13), (.str s13 216), (.int 3 215)⟩, ⟨(PySem.PyData.keyHash P s14), (.str s14 218), (.int 4 217)⟩, ⟨(PySem.PyData.keyHash P s15), (.str s15 220), (.int 5 219)⟩, ⟨(PySem.PyData.keyHash P s16), (.str s16 222), (.int 8 221)⟩, ⟨(PySem.PyData.keyHash P s17), (.str s17 224), (.int 10 223)⟩, ⟨(PySem.PyData.keyHash P s18), (.str s18 226), (.int 4294967295 225)⟩, ⟨(PySem.PyData.keyHash P s19), (.str s19 297), (.ref 60)⟩, ⟨(PySem.PyData.keyHash P s33), (.str s33 328), (.ref 81)⟩, ⟨(PySem.PyData.keyHash P s38), (.str s38 361), (.ref 101)⟩, ⟨(PySem.PyData.keyHash P s43), (.str s43 390), (.ref 122)⟩, ⟨(PySem.PyData.keyHash P s44), (.str s44 397), (.ref 133)⟩, ⟨(PySem.PyData.keyHash P s48), (.str s48 404), (.ref 140)⟩, ⟨(PySem.PyData.keyHash P s50), (.str s50 411), (.ref 147)⟩, ⟨(PySem.PyData.keyHash P s51), (.str s51 420), (.ref 154)⟩, ⟨(PySem.PyData.keyHash P s55), (.str s55 430), (.ref 161)⟩, ⟨(PySem.PyData.keyHash P s59), (.str s59 438), (.ref 168)⟩, ⟨(PySem.PyData.keyHash P s61), (.str s61 445), (.ref 175)⟩, ⟨(PySem.PyData.keyHash P s63), (.str s63 449), (.int 4 448)⟩, ⟨(PySem.PyData.keyHash P s64), (.str s64 508), (.ref 221)⟩, ⟨(PySem.PyData.keyHash P s72), (.str s72 517), (.ref 230)⟩, ⟨(PySem.PyData.keyHash P s74), (.str s74 526), (.ref 237)⟩, ⟨(PySem.PyData.keyHash P s75), (.str s75 534), (.ref 244)⟩, ⟨(PySem.PyData.keyHash P s77), (.str s77 544), (.ref 251)⟩, ⟨(PySem.PyData.keyHash P s80), (.str s80 548), (.int 0 547)⟩, ⟨(PySem.PyData.keyHash P s81), (.str s81 551), (.int (-1) 550)⟩, ⟨(PySem.PyData.keyHash P s82), (.str s82 553), (.int 20 552)⟩, ⟨(PySem.PyData.keyHash P s83), (.str s83 555), (.int 20 554)⟩, ⟨(PySem.PyData.keyHash P s84), (.str s84 608), (.ref 282)⟩, ⟨(PySem.PyData.keyHash P s94), (.str s94 769), (.ref 403)⟩, ⟨(PySem.PyData.keyHash P s127), (.str s127 814), (.ref 429)⟩, ⟨(PySem.PyData.keyHash P s138), (.str s138 823), (.ref 440)⟩, ⟨(PySem.PyData.keyHash P s139), (.str s139 832), (.ref 447)⟩, ⟨(PySem.PyData.keyHash P s141), (.str s141 841), (.ref 454)⟩, ⟨(PySem.PyData.keyHash P s143), (.str s143 854), (.ref 461)⟩, ⟨(PySem.PyData.keyHash P s149), (.str s149 858), (.int 26 857)⟩, ⟨(PySem.PyData.keyHash P s150), (.str s150 861), (.int 67108864 860)⟩, ⟨(PySem.PyData.keyHash P s151), (.str s151 865), (.int 4194304 864)⟩, ⟨(PySem.PyData.keyHash P s152), (.str s152 869), (.int 1048576 868)⟩, ⟨(PySem.PyData.keyHash P s153), (.str s153 871), (.int 56 870)⟩, ⟨(PySem.PyData.keyHash P s154), (.str s154 873), (.int 16 872)⟩, ⟨(PySem.PyData.keyHash P s155), (.str s155 875), (.int 32 874)⟩, ⟨(PySem.PyData.keyHash P s156), (.str s156 904), (.ref 478)⟩, ⟨(PySem.PyData.keyHash P s157), (.str s157 942), (.ref 506)⟩, ⟨(PySem.PyData.keyHash P s162), (.str s162 949), (.ref 517)⟩, ⟨(PySem.PyData.keyHash P s163), (.str s163 962), (.ref 524)⟩, ⟨(PySem.PyData.keyHash P s169), (.str s169 971), (.ref 531)⟩, ⟨(PySem.PyData.keyHash P s170), (.str s170 1277), (.ref 737)⟩, ⟨(PySem.PyData.keyHash P s220), (.str s220 1412), (.ref 840)⟩, ⟨(PySem.PyData.keyHash P s241), (.str s241 1424), (.ref 851)⟩, ⟨(PySem.PyData.keyHash P s246), (.str s246 1430), (.ref 856)⟩, ⟨(PySem.PyData.keyHash P s251), (.str s251 1436), (.ref 861)⟩]⟩ 66), ⟨[]⟩⟩
noncomputable def o12_1107 (_ : Params) : Obj := ⟨.none, none, (.fields ⟨[(.int 1 0), (.int 0 0), (.ref 20), (.int 5 0), (.int 0 0), (.ref 27), (.int 19 0), (.int 0 0), (.ref 34), (.int 38 0), (.int 0 0), (.ref 70), (.int 44 0), (.int 0 0), (.ref 90), (.int 51 0), (.int 0 0), (.ref 111), (.int 55 0), (.int 0 0), (.ref 132), (.int 57 0), (.int 0 0), (.ref 139), (.int 71 0), (.int 0 0), (.ref 146), (.int 73 0), (.int 0 0), (.ref 153), (.int 82 0), (.int 0 0), (.ref 160), (.int 89 0), (.int 0 0), (.ref 167), (.int 95 0), (.int 0 0), (.ref 174), (.int 99 0), (.int 0 0), (.ref 181), (.int 128 0), (.int 0 0), (.ref 229), (.int 133 0), (.int 0 0), (.ref 236), (.int 138 0), (.int 0 0), (.ref 243), (.int 140 0), (.int 0 0), (.ref 250), (.int 152 0), (.int 0 0), (.ref 257), (.int 168 0), (.int 0 0), (.ref 292), (.int 253 0), (.int 0 0), (.ref 411), (.int 269 0), (.int 0 0), (.ref 439), (.int 277 0), (.int 0 0), (.ref 446), (.int 281 0), (.int 0 0), (.ref 453), (.int 287 0), (.int 0 0), (.ref 460), (.int 305 0), (.int 0 0), (.ref 467), (.int 309 0), (.int 0 0), (.ref 488), (.int 320 0), (.int 0 0), (.ref 516), (.int 322 0), (.int 0 0), (.ref 523), (.int 339 0), (.int 0 0), (.ref 530), (.int 345 0), (.int 0 0), (.ref 537), (.int 592 0), (.int 0 0), (.ref 745), (.int 639 0), (.int 0 0), (.ref 850), (.int 643 0), (.int 0 0), (.ref 855), (.int 656 0), (.int 0 0), (.ref 860)]⟩), ⟨[]⟩⟩
noncomputable def o845_1108 (_ : Params) : Obj := ⟨(.type SL.s2766695959194262286x5), none, (.seq ⟨[]⟩ 0), ⟨[]⟩⟩
noncomputable def o846_1109 (_ : Params) : Obj := ⟨.none, none, (.fields ⟨[]⟩), ⟨[]⟩⟩
noncomputable def o847_1110 (_ : Params) : Obj := ⟨(.type SL.s2766695959194262286x5), none, (.seq ⟨[(.str s242 1418), (.str s174 1419), (.str s243 1420), (.str s244 1421)]⟩ 0), ⟨[]⟩⟩
noncomputable def o848_1111 (_ : Params) : Obj := ⟨(.type SL.s2766695959194262286x5), none, (.seq ⟨[]⟩ 0), ⟨[]⟩⟩
noncomputable def o849_1112 (_ : Params) : Obj := ⟨.none, none, (.func ⟨s241, s241, a233, (.stmts (bAt 63)), c234, 0, [], .none, .none, .none, .none, none, .none, .none, 0⟩), ⟨[]⟩⟩
noncomputable def o850_1113 (_ : Params) : Obj := ⟨(.type SL.s5856160107412720595x4), none, (.fields ⟨[(.str s241 1415), (.str s241 1416), (.str s402 1417), (.int 639 0), (.int 2 0), (.int 0 0), (.int 0 0), (.int 3 0), (.ref 845), (.bool true), (.int 181 0), (.ref 846), .none, (.ref 847), (.ref 848), (.ref 849), (.int 1422 0), (.int 639 0), (.str s402 1423)]⟩), ⟨[]⟩⟩
noncomputable def o851_1114 (_ : Params) : Obj := ⟨(.type SL.s7174869446012820540x8), none, (.func ⟨s241, s241, a233, (.stmts (bAt 63)), c234, 3, [], .none, .none, .none, (.str s240 1413), none, (.ref 850), .none, 0⟩), ⟨[]⟩⟩
noncomputable def o852_1115 (_ : Params) : Obj := ⟨(.type SL.s2766695959194262286x5), none, (.seq ⟨[]⟩ 0), ⟨[]⟩⟩
noncomputable def o853_1116 (_ : Params) : Obj := ⟨.none, none, (.fields ⟨[]⟩), ⟨[]⟩⟩
noncomputable def o854_1117 (_ : Params) : Obj := ⟨.none, none, (.func ⟨s246, s246, a236, (.stmts (bAt 64)), c237, 0, [], .none, .none, .none, .none, none, .none, .none, 0⟩), ⟨[]⟩⟩
noncomputable def o855_1118 (_ : Params) : Obj := ⟨(.type SL.s5856160107412720595x4), none, (.fields ⟨[(.str s246 1425), (.str s246 1426), (.str s402 1427), (.int 643 0), (.int 1 0), (.int 0 0), (.int 0 0), (.int 3 0), (.ref 852), (.bool true), (.int 181 0), (.ref 853), .none, .none, .none, (.ref 854), (.int 1428 0), (.int 643 0), (.str s402 1429)]⟩), ⟨[]⟩⟩
noncomputable def o856_1119 (_ : Params) : Obj := ⟨(.type SL.s7174869446012820540x8), none, (.func ⟨s246, s246, a236, (.stmts (bAt 64)), c237, 3, [], .none, .none, .none, (.str s240 1413), none, (.ref 855), .none, 0⟩), ⟨[]⟩⟩
noncomputable def o857_1120 (_ : Params) : Obj := ⟨(.type SL.s2766695959194262286x5), none, (.seq ⟨[]⟩ 0), ⟨[]⟩⟩
noncomputable def o858_1121 (_ : Params) : Obj := ⟨.none, none, (.fields ⟨[]⟩), ⟨[]⟩⟩
noncomputable def o859_1122 (_ : Params) : Obj := ⟨.none, none, (.func ⟨s251, s251, a239, (.stmts (bAt 65)), c240, 0, [], .none, .none, .none, .none, none, .none, .none, 0⟩), ⟨[]⟩⟩
noncomputable def o860_1123 (_ : Params) : Obj := ⟨(.type SL.s5856160107412720595x4), none, (.fields ⟨[(.str s251 1431), (.str s251 1432), (.str s402 1433), (.int 656 0), (.int 1 0), (.int 0 0), (.int 0 0), (.int 3 0), (.ref 857), (.bool true), (.int 181 0), (.ref 858), .none, .none, .none, (.ref 859), (.int 1434 0), (.int 656 0), (.str s402 1435)]⟩), ⟨[]⟩⟩
noncomputable def o861_1124 (_ : Params) : Obj := ⟨(.type SL.s7174869446012820540x8), none, (.func ⟨s251, s251, a239, (.stmts (bAt 65)), c240, 3, [], .none, .none, .none, (.str s240 1413), none, (.ref 860), .none, 0⟩), ⟨[]⟩⟩
noncomputable def T8 (P : Params) : BT := (.node (o0_243 P) (.node (o1_244 P) (.node (o3_1106 P) (.node (o7_250 P) (.node (o15_261 P) (.node (o31_277 P) (.node (o63_309 P) (.node (o127_375 P) (.node (o255_509 P) (.node (o511_770 P) .nil .nil) (.node (o767_1028 P) .nil .nil)) (.node (o383_637 P) (.node (o639_898 P) .nil .nil) .nil)) (.node (o191_442 P) (.node (o319_573 P) (.node (o575_834 P) .nil .nil) (.node (o831_1092 P) .nil .nil)) (.node (o447_703 P) (.node (o703_962 P) .nil .nil) .nil))) (.node (o95_343 P) (.node (o159_407 P) (.node (o287_541 P) (.node (o543_802 P) .nil .nil) (.node (o799_1060 P) .nil .nil)) (.node (o415_671 P) (.node (o671_930 P) .nil .nil) .nil)) (.node (o223_474 P) (.node (o351_605 P) (.node (o607_866 P) .nil .nil) .nil) (.node (o479_735 P) (.node (o735_994 P) .nil .nil) .nil)))) (.node (o47_293 P) (.node (o79_325 P) (.node (o143_391 P) (.node (o271_525 P) (.node (o527_786 P) .nil .nil) (.node (o783_1044 P) .nil .nil)) (.node (o399_653 P) (.node (o655_914 P) .nil .nil) .nil)) (.node (o207_458 P) (.node (o335_589 P) (.node (o591_850 P) .nil .nil) (.node (o847_1110 P) .nil .nil)) (.node (o463_719 P) (.node (o719_978 P) .nil .nil) .nil))) (.node (o111_359 P) (.node (o175_426 P) (.node (o303_557 P) (.node (o559_818 P) .nil .nil) (.node (o815_1076 P) .nil .nil)) (.node (o431_687 P) (.node (o687_946 P) .nil .nil) .nil)) (.node (o239_490 P) (.node (o367_621 P) (.node (o623_882 P) .nil .nil) .nil) (.node (o495_754 P) (.node (o751_1012 P) .nil .nil) .nil))))) (.node (o23_269 P) (.node (o39_285 P) (.node (o71_317 P) (.node (o135_383 P) (.node (o263_517 P) (.node (o519_778 P) .nil .nil) (.node (o775_1036 P) .nil .nil)) (.node (o391_645 P) (.node (o647_906 P) .nil .nil) .nil)) (.node (o199_450 P) (.node (o327_581 P) (.node (o583_842 P) .nil .nil) (.node (o839_1100 P) .nil .nil)) (.node (o455_711 P) (.node (o711_970 P) .nil .nil) .nil))) (.node (o103_351 P) (.node (o167_418 P) (.node (o295_549 P) (.node (o551_810 P) .nil .nil) (.node (o807_1068 P) .nil .nil)) (.node (o423_679 P) (.node (o679_938 P) .nil .nil) .nil)) (.node (o231_482 P) (.node (o359_613 P) (.node (o615_874 P) .nil .nil) .nil) (.node (o487_746 P) (.node (o743_1004 P) .nil .nil) .nil)))) (.node (o55_301 P) (.node (o87_335 P) (.node (o151_399 P) (.node (o279_533 P) (.node (o535_794 P) .nil .nil) (.node (o791_1052 P) .nil .nil)) (.node (o407_663 P) (.node (o663_922 P) .nil .nil) .nil)) (.node (o215_466 P) (.node (o343_597 P) (.node (o599_858 P) .nil .nil) (.node (o855_1118 P) .nil .nil)) (.node (o471_727 P) (.node (o727_986 P) .nil .nil) .nil))) (.node (o119_367 P) (.node (o183_434 P) (.node (o311_565 P) (.node (o567_826 P) .nil .nil) (.node (o823_1084 P) .nil .nil)) (.node (o439_695 P) (.node (o695_954 P) .nil .nil) .nil)) (.node (o247_501 P) (.node (o375_629 P) (.node (o631_890 P) .nil .nil) .nil) (.node (o503_762 P) (.node (o759_1020 P) .nil .nil) .nil)))))) (.node (o11_254 P) (.node (o19_265 P) (.node (o35_281 P) (.node (o67_313 P) (.node (o131_379 P) (.node (o259_513 P) (.node (o515_774 P) .nil .nil) (.node (o771_1032 P) .nil .nil)) (.node (o387_641 P) (.node (o643_902 P) .nil .nil) .nil)) (.node (o195_446 P) (.node (o323_577 P) (.node (o579_838 P) .nil .nil) (.node (o835_1096 P) .nil .nil)) (.node (o451_707 P) (.node (o707_966 P) .nil .nil) .nil))) (.node (o99_347 P) (.node (o163_414 P) (.node (o291_545 P) (.node (o547_806 P) .nil .nil) (.node (o803_1064 P) .nil .nil)) (.node (o419_675 P) (.node (o675_934 P) .nil .nil) .nil)) (.node (o227_478 P) (.node (o355_609 P) (.node (o611_870 P) .nil .nil) .nil) (.node (o483_742 P) (.node (o739_998 P) .nil .nil) .nil)))) (.node (o51_297 P) (.node (o83_329 P) (.node (o147_395 P) (.node (o275_529 P) (.node (o531_790 P) .nil .nil) (.node (o787_1048 P) .nil .nil)) (.node (o403_657 P) (.node (o659_918 P) .nil .nil) .nil)) (.node (o211_462 P) (.node (o339_593 P) (.node (o595_854 P) .nil .nil) (.node (o851_1114 P) .nil .nil)) (.node (o467_723 P) (.node (o723_982 P) .nil .nil) .nil))) (.node (o115_363 P) (.node (o179_430 P) (.node (o307_561 P) (.node (o563_822 P) .nil .nil) (.node (o819_1080 P) .nil .nil)) (.node (o435_691 P) (.node (o691_950 P) .nil .nil) .nil)) (.node (o243_494 P) (.node (o371_625 P) (.node (o627_886 P) .nil .nil) .nil) (.node (o499_758 P) (.node (o755_1016 P) .nil .nil) .nil))))) (.node (o27_273 P) (.node (o43_289 P) (.node (o75_321 P) (.node (o139_387 P) (.node (o267_521 P) (.node (o523_782 P) .nil .nil) (.node (o779_1040 P) .nil .nil)) (.node (o395_649 P) (.node (o651_910 P) .nil .nil) .nil)) (.node (o203_454 P) (.node (o331_585 P) (.node (o587_846 P) .nil .nil) (.node (o843_1104 P) .nil .nil)) (.node (o459_715 P) (.node (o715_974 P) .nil .nil) .nil))) (.node (o107_355 P) (.node (o171_422 P) (.node (o299_553 P) (.node (o555_814 P) .nil .nil) (.node (o811_1072 P) .nil .nil)) (.node (o427_683 P) (.node (o683_942 P) .nil .nil) .nil)) (.node (o235_486 P) (.node (o363_617 P) (.node (o619_878 P) .nil .nil) .nil) (.node (o491_750 P) (.node (o747_1008 P) .nil .nil) .nil)))) (.node (o59_305 P) (.node (o91_339 P) (.node (o155_403 P) (.node (o283_537 P) (.node (o539_798 P) .nil .nil) (.node (o795_1056 P) .nil .nil)) (.node (o411_667 P) (.node (o667_926 P) .nil .nil) .nil)) (.node (o219_470 P) (.node (o347_601 P) (.node (o603_862 P) .nil .nil) (.node (o859_1122 P) .nil .nil)) (.node (o475_731 P) (.node (o731_990 P) .nil .nil) .nil))) (.node (o123_371 P) (.node (o187_438 P) (.node (o315_569 P) (.node (o571_830 P) .nil .nil) (.node (o827_1088 P) .nil .nil)) (.node (o443_699 P) (.node (o699_958 P) .nil .nil) .nil)) (.node (o251_505 P) (.node (o379_633 P) (.node (o635_894 P) .nil .nil) .nil) (.node (o507_766 P) (.node (o763_1024 P) .nil .nil) .nil))))))) (.node (o5_248 P) (.node (o9_252 P) (.node (o17_263 P) (.node (o33_279 P) (.node (o65_311 P) (.node (o129_377 P) (.node (o257_511 P) (.node (o513_772 P) .nil .nil) (.node (o769_1030 P) .nil .nil)) (.node (o385_639 P) (.node (o641_900 P) .nil .nil) .nil)) (.node (o193_444 P) (.node (o321_575 P) (.node (o577_836 P) .nil .nil) (.node (o833_1094 P) .nil .nil)) (.node (o449_705 P) (.node (o705_964 P) .nil .nil) .nil))) (.node (o97_345 P) (.node (o161_409 P) (.node (o289_543 P) (.node (o545_804 P) .nil .nil) (.node (o801_1062 P) .nil .nil)) (.node (o417_673 P) (.node (o673_932 P) .nil .nil) .nil)) (.node (o225_476 P) (.node (o353_607 P) (.node (o609_868 P) .nil .nil) .nil) (.node (o481_737 P) (.node (o737_996 P) .nil .nil) .nil)))) (.node (o49_295 P) (.node (o81_327 P) (.node (o145_393 P) (.node (o273_527 P) (.node (o529_788 P) .nil .nil) (.node (o785_1046 P) .nil .nil)) (.node (o401_655 P) (.node (o657_916 P) .nil .nil) .nil)) (.node (o209_460 P) (.node (o337_591 P) (.node (o593_852 P) .nil .nil) (.node (o849_1112 P) .nil .nil)) (.node (o465_721 P) (.node (o721_980 P) .nil .nil) .nil))) (.node (o113_361 P) (.node (o177_428 P) (.node (o305_559 P) (.node (o561_820 P) .nil .nil) (.node (o817_1078 P) .nil .nil)) (.node (o433_689 P) (.node (o689_948 P) .nil .nil) .nil)) (.node (o241_492 P) (.node (o369_623 P) (.node (o625_884 P) .nil .nil) .nil) (.node (o497_756 P) (.node (o753_1014 P) .nil .nil) .nil))))) (.node (o25_271 P) (.node (o41_287 P) (.node (o73_319 P) (.node (o137_385 P) (.node (o265_519 P) (.node (o521_780 P) .nil .nil) (.node (o777_1038 P) .nil .nil)) (.node (o393_647 P) (.node (o649_908 P) .nil .nil) .nil)) (.node (o201_452 P) (.node (o329_583 P) (.node (o585_844 P) .nil .nil) (.node (o841_1102 P) .nil .nil)) (.node (o457_713 P) (.node (o713_972 P) .nil .nil) .nil))) (.node (o105_353 P) (.node (o169_420 P) (.node (o297_551 P) (.node (o553_812 P) .nil .nil) (.node (o809_1070 P) .nil .nil)) (.node (o425_681 P) (.node (o681_940 P) .nil .nil) .nil)) (.node (o233_484 P) (.node (o361_615 P) (.node (o617_876 P) .nil .nil) .nil) (.node (o489_748 P) (.node (o745_1006 P) .nil .nil) .nil)))) (.node (o57_303 P) (.node (o89_337 P) (.node (o153_401 P) (.node (o281_535 P) (.node (o537_796 P) .nil .nil) (.node (o793_1054 P) .nil .nil)) (.node (o409_665 P) (.node (o665_924 P) .nil .nil) .nil)) (.node (o217_468 P) (.node (o345_599 P) (.node (o601_860 P) .nil .nil) (.node (o857_1120 P) .nil .nil)) (.node (o473_729 P) (.node (o729_988 P) .nil .nil) .nil))) (.node (o121_369 P) (.node (o185_436 P) (.node (o313_567 P) (.node (o569_828 P) .nil .nil) (.node (o825_1086 P) .nil .nil)) (.node (o441_697 P) (.node (o697_956 P) .nil .nil) .nil)) (.node (o249_503 P) (.node (o377_631 P) (.node (o633_892 P) .nil .nil) .nil) (.node (o505_764 P) (.node (o761_1022 P) .nil .nil) .nil)))))) (.node (o13_256 P) (.node (o21_267 P) (.node (o37_283 P) (.node (o69_315 P) (.node (o133_381 P) (.node (o261_515 P) (.node (o517_776 P) .nil .nil) (.node (o773_1034 P) .nil .nil)) (.node (o389_643 P) (.node (o645_904 P) .nil .nil) .nil)) (.node (o197_448 P) (.node (o325_579 P) (.node (o581_840 P) .nil .nil) (.node (o837_1098 P) .nil .nil)) (.node (o453_709 P) (.node (o709_968 P) .nil .nil) .nil))) (.node (o101_741 P) (.node (o165_416 P) (.node (o293_547 P) (.node (o549_808 P) .nil .nil) (.node (o805_1066 P) .nil .nil)) (.node (o421_677 P) (.node (o677_936 P) .nil .nil) .nil)) (.node (o229_480 P) (.node (o357_611 P) (.node (o613_872 P) .nil .nil) .nil) (.node (o485_744 P) (.node (o741_1002 P) .nil .nil) .nil)))) (.node (o53_299 P) (.node (o85_333 P) (.node (o149_397 P) (.node (o277_531 P) (.node (o533_792 P) .nil .nil) (.node (o789_1050 P) .nil .nil)) (.node (o405_659 P) (.node (o661_920 P) .nil .nil) .nil)) (.node (o213_464 P) (.node (o341_595 P) (.node (o597_856 P) .nil .nil) (.node (o853_1116 P) .nil .nil)) (.node (o469_725 P) (.node (o725_984 P) .nil .nil) .nil))) (.node (o117_365 P) (.node (o181_432 P) (.node (o309_563 P) (.node (o565_824 P) .nil .nil) (.node (o821_1082 P) .nil .nil)) (.node (o437_693 P) (.node (o693_952 P) .nil .nil) .nil)) (.node (o245_499 P) (.node (o373_627 P) (.node (o629_888 P) .nil .nil) .nil) (.node (o501_760 P) (.node (o757_1018 P) .nil .nil) .nil))))) (.node (o29_275 P) (.node (o45_291 P) (.node (o77_323 P) (.node (o141_389 P) (.node (o269_523 P) (.node (o525_784 P) .nil .nil) (.node (o781_1042 P) .nil .nil)) (.node (o397_651 P) (.node (o653_912 P) .nil .nil) .nil)) (.node (o205_456 P) (.node (o333_587 P) (.node (o589_848 P) .nil .nil) (.node (o845_1108 P) .nil .nil)) (.node (o461_717 P) (.node (o717_976 P) .nil .nil) .nil))) (.node (o109_357 P) (.node (o173_424 P) (.node (o301_555 P) (.node (o557_816 P) .nil .nil) (.node (o813_1074 P) .nil .nil)) (.node (o429_685 P) (.node (o685_944 P) .nil .nil) .nil)) (.node (o237_488 P) (.node (o365_619 P) (.node (o621_880 P) .nil .nil) .nil) (.node (o493_752 P) (.node (o749_1010 P) .nil .nil) .nil)))) (.node (o61_307 P) (.node (o93_341 P) (.node (o157_405 P) (.node (o285_539 P) (.node (o541_800 P) .nil .nil) (.node (o797_1058 P) .nil .nil)) (.node (o413_669 P) (.node (o669_928 P) .nil .nil) .nil)) (.node (o221_472 P) (.node (o349_603 P) (.node (o605_864 P) .nil .nil) (.node (o861_1124 P) .nil .nil)) (.node (o477_733 P) (.node (o733_992 P) .nil .nil) .nil))) (.node (o125_373 P) (.node (o189_440 P) (.node (o317_571 P) (.node (o573_832 P) .nil .nil) (.node (o829_1090 P) .nil .nil)) (.node (o445_701 P) (.node (o701_960 P) .nil .nil) .nil)) (.node (o253_507 P) (.node (o381_635 P) (.node (o637_896 P) .nil .nil) .nil) (.node (o509_768 P) (.node (o765_1026 P) .nil .nil) .nil)))))))) (.node (o2_258 P) (.node (o4_247 P) (.node (o8_251 P) (.node (o16_262 P) (.node (o32_278 P) (.node (o64_310 P) (.node (o128_376 P) (.node (o256_510 P) (.node (o512_771 P) .nil .nil) (.node (o768_1029 P) .nil .nil)) (.node (o384_638 P) (.node (o640_899 P) .nil .nil) .nil)) (.node (o192_443 P) (.node (o320_574 P) (.node (o576_835 P) .nil .nil) (.node (o832_1093 P) .nil .nil)) (.node (o448_704 P) (.node (o704_963 P) .nil .nil) .nil))) (.node (o96_344 P) (.node (o160_408 P) (.node (o288_542 P) (.node (o544_803 P) .nil .nil) (.node (o800_1061 P) .nil .nil)) (.node (o416_672 P) (.node (o672_931 P) .nil .nil) .nil)) (.node (o224_475 P) (.node (o352_606 P) (.node (o608_867 P) .nil .nil) .nil) (.node (o480_736 P) (.node (o736_995 P) .nil .nil) .nil)))) (.node (o48_294 P) (.node (o80_326 P) (.node (o144_392 P) (.node (o272_526 P) (.node (o528_787 P) .nil .nil) (.node (o784_1045 P) .nil .nil)) (.node (o400_654 P) (.node (o656_915 P) .nil .nil) .nil)) (.node (o208_459 P) (.node (o336_590 P) (.node (o592_851 P) .nil .nil) (.node (o848_1111 P) .nil .nil)) (.node (o464_720 P) (.node (o720_979 P) .nil .nil) .nil))) (.node (o112_360 P) (.node (o176_427 P) (.node (o304_558 P) (.node (o560_819 P) .nil .nil) (.node (o816_1077 P) .nil .nil)) (.node (o432_688 P) (.node (o688_947 P) .nil .nil) .nil)) (.node (o240_491 P) (.node (o368_622 P) (.node (o624_883 P) .nil .nil) .nil) (.node (o496_755 P) (.node (o752_1013 P) .nil .nil) .nil))))) (.node (o24_270 P) (.node (o40_286 P) (.node (o72_318 P) (.node (o136_384 P) (.node (o264_518 P) (.node (o520_779 P) .nil .nil) (.node (o776_1037 P) .nil .nil)) (.node (o392_646 P) (.node (o648_907 P) .nil .nil) .nil)) (.node (o200_451 P) (.node (o328_582 P) (.node (o584_843 P) .nil .nil) (.node (o840_1101 P) .nil .nil)) (.node (o456_712 P) (.node (o712_971 P) .nil .nil) .nil))) (.node (o104_352 P) (.node (o168_419 P) (.node (o296_550 P) (.node (o552_811 P) .nil .nil) (.node (o808_1069 P) .nil .nil)) (.node (o424_680 P) (.node (o680_939 P) .nil .nil) .nil)) (.node (o232_483 P) (.node (o360_614 P) (.node (o616_875 P) .nil .nil) .nil) (.node (o488_747 P) (.node (o744_1005 P) .nil .nil) .nil)))) (.node (o56_302 P) (.node (o88_336 P) (.node (o152_400 P) (.node (o280_534 P) (.node (o536_795 P) .nil .nil) (.node (o792_1053 P) .nil .nil)) (.node (o408_664 P) (.node (o664_923 P) .nil .nil) .nil)) (.node (o216_467 P) (.node (o344_598 P) (.node (o600_859 P) .nil .nil) (.node (o856_1119 P) .nil .nil)) (.node (o472_728 P) (.node (o728_987 P) .nil .nil) .nil))) (.node (o120_368 P) (.node (o184_435 P) (.node (o312_566 P) (.node (o568_827 P) .nil .nil) (.node (o824_1085 P) .nil .nil)) (.node (o440_696 P) (.node (o696_955 P) .nil .nil) .nil)) (.node (o248_502 P) (.node (o376_630 P) (.node (o632_891 P) .nil .nil) .nil) (.node (o504_763 P) (.node (o760_1021 P) .nil .nil) .nil)))))) (.node (o12_1107 P) (.node (o20_266 P) (.node (o36_282 P) (.node (o68_314 P) (.node (o132_380 P) (.node (o260_514 P) (.node (o516_775 P) .nil .nil) (.node (o772_1033 P) .nil .nil)) (.node (o388_642 P) (.node (o644_903 P) .nil .nil) .nil)) (.node (o196_447 P) (.node (o324_578 P) (.node (o580_839 P) .nil .nil) (.node (o836_1097 P) .nil .nil)) (.node (o452_708 P) (.node (o708_967 P) .nil .nil) .nil))) (.node (o100_348 P) (.node (o164_415 P) (.node (o292_546 P) (.node (o548_807 P) .nil .nil) (.node (o804_1065 P) .nil .nil)) (.node (o420_676 P) (.node (o676_935 P) .nil .nil) .nil)) (.node (o228_479 P) (.node (o356_610 P) (.node (o612_871 P) .nil .nil) .nil) (.node (o484_743 P) (.node (o740_1001 P) .nil .nil) .nil)))) (.node (o52_298 P) (.node (o84_330 P) (.node (o148_396 P) (.node (o276_530 P) (.node (o532_791 P) .nil .nil) (.node (o788_1049 P) .nil .nil)) (.node (o404_658 P) (.node (o660_919 P) .nil .nil) .nil)) (.node (o212_463 P) (.node (o340_594 P) (.node (o596_855 P) .nil .nil) (.node (o852_1115 P) .nil .nil)) (.node (o468_724 P) (.node (o724_983 P) .nil .nil) .nil))) (.node (o116_364 P) (.node (o180_431 P) (.node (o308_562 P) (.node (o564_823 P) .nil .nil) (.node (o820_1081 P) .nil .nil)) (.node (o436_692 P) (.node (o692_951 P) .nil .nil) .nil)) (.node (o244_495 P) (.node (o372_626 P) (.node (o628_887 P) .nil .nil) .nil) (.node (o500_759 P) (.node (o756_1017 P) .nil .nil) .nil))))) (.node (o28_274 P) (.node (o44_290 P) (.node (o76_322 P) (.node (o140_388 P) (.node (o268_522 P) (.node (o524_783 P) .nil .nil) (.node (o780_1041 P) .nil .nil)) (.node (o396_650 P) (.node (o652_911 P) .nil .nil) .nil)) (.node (o204_455 P) (.node (o332_586 P) (.node (o588_847 P) .nil .nil) (.node (o844_1105 P) .nil .nil)) (.node (o460_716 P) (.node (o716_975 P) .nil .nil) .nil))) (.node (o108_356 P) (.node (o172_423 P) (.node (o300_554 P) (.node (o556_815 P) .nil .nil) (.node (o812_1073 P) .nil .nil)) (.node (o428_684 P) (.node (o684_943 P) .nil .nil) .nil)) (.node (o236_487 P) (.node (o364_618 P) (.node (o620_879 P) .nil .nil) .nil) (.node (o492_751 P) (.node (o748_1009 P) .nil .nil) .nil)))) (.node (o60_306 P) (.node (o92_340 P) (.node (o156_404 P) (.node (o284_538 P) (.node (o540_799 P) .nil .nil) (.node (o796_1057 P) .nil .nil)) (.node (o412_668 P) (.node (o668_927 P) .nil .nil) .nil)) (.node (o220_471 P) (.node (o348_602 P) (.node (o604_863 P) .nil .nil) (.node (o860_1123 P) .nil .nil)) (.node (o476_732 P) (.node (o732_991 P) .nil .nil) .nil))) (.node (o124_372 P) (.node (o188_439 P) (.node (o316_570 P) (.node (o572_831 P) .nil .nil) (.node (o828_1089 P) .nil .nil)) (.node (o444_700 P) (.node (o700_959 P) .nil .nil) .nil)) (.node (o252_506 P) (.node (o380_634 P) (.node (o636_895 P) .nil .nil) .nil) (.node (o508_767 P) (.node (o764_1025 P) .nil .nil) .nil))))))) (.node (o6_249 P) (.node (o10_253 P) (.node (o18_264 P) (.node (o34_280 P) (.node (o66_312 P) (.node (o130_378 P) (.node (o258_512 P) (.node (o514_773 P) .nil .nil) (.node (o770_1031 P) .nil .nil)) (.node (o386_640 P) (.node (o642_901 P) .nil .nil) .nil)) (.node (o194_445 P) (.node (o322_576 P) (.node (o578_837 P) .nil .nil) (.node (o834_1095 P) .nil .nil)) (.node (o450_706 P) (.node (o706_965 P) .nil .nil) .nil))) (.node (o98_346 P) (.node (o162_413 P) (.node (o290_544 P) (.node (o546_805 P) .nil .nil) (.node (o802_1063 P) .nil .nil)) (.node (o418_674 P) (.node (o674_933 P) .nil .nil) .nil)) (.node (o226_477 P) (.node (o354_608 P) (.node (o610_869 P) .nil .nil) .nil) (.node (o482_738 P) (.node (o738_997 P) .nil .nil) .nil)))) (.node (o50_296 P) (.node (o82_328 P) (.node (o146_394 P) (.node (o274_528 P) (.node (o530_789 P) .nil .nil) (.node (o786_1047 P) .nil .nil)) (.node (o402_656 P) (.node (o658_917 P) .nil .nil) .nil)) (.node (o210_461 P) (.node (o338_592 P) (.node (o594_853 P) .nil .nil) (.node (o850_1113 P) .nil .nil)) (.node (o466_722 P) (.node (o722_981 P) .nil .nil) .nil))) (.node (o114_362 P) (.node (o178_429 P) (.node (o306_560 P) (.node (o562_821 P) .nil .nil) (.node (o818_1079 P) .nil .nil)) (.node (o434_690 P) (.node (o690_949 P) .nil .nil) .nil)) (.node (o242_493 P) (.node (o370_624 P) (.node (o626_885 P) .nil .nil) .nil) (.node (o498_757 P) (.node (o754_1015 P) .nil .nil) .nil))))) (.node (o26_272 P) (.node (o42_288 P) (.node (o74_320 P) (.node (o138_386 P) (.node (o266_520 P) (.node (o522_781 P) .nil .nil) (.node (o778_1039 P) .nil .nil)) (.node (o394_648 P) (.node (o650_909 P) .nil .nil) .nil)) (.node (o202_453 P) (.node (o330_584 P) (.node (o586_845 P) .nil .nil) (.node (o842_1103 P) .nil .nil)) (.node (o458_714 P) (.node (o714_973 P) .nil .nil) .nil))) (.node (o106_354 P) (.node (o170_421 P) (.node (o298_552 P) (.node (o554_813 P) .nil .nil) (.node (o810_1071 P) .nil .nil)) (.node (o426_682 P) (.node (o682_941 P) .nil .nil) .nil)) (.node (o234_485 P) (.node (o362_616 P) (.node (o618_877 P) .nil .nil) .nil) (.node (o490_749 P) (.node (o746_1007 P) .nil .nil) .nil)))) (.node (o58_304 P) (.node (o90_338 P) (.node (o154_402 P) (.node (o282_536 P) (.node (o538_797 P) .nil .nil) (.node (o794_1055 P) .nil .nil)) (.node (o410_666 P) (.node (o666_925 P) .nil .nil) .nil)) (.node (o218_469 P) (.node (o346_600 P) (.node (o602_861 P) .nil .nil) (.node (o858_1121 P) .nil .nil)) (.node (o474_730 P) (.node (o730_989 P) .nil .nil) .nil))) (.node (o122_370 P) (.node (o186_437 P) (.node (o314_568 P) (.node (o570_829 P) .nil .nil) (.node (o826_1087 P) .nil .nil)) (.node (o442_698 P) (.node (o698_957 P) .nil .nil) .nil)) (.node (o250_504 P) (.node (o378_632 P) (.node (o634_893 P) .nil .nil) .nil) (.node (o506_765 P) (.node (o762_1023 P) .nil .nil) .nil)))))) (.node (o14_257 P) (.node (o22_268 P) (.node (o38_284 P) (.node (o70_316 P) (.node (o134_382 P) (.node (o262_516 P) (.node (o518_777 P) .nil .nil) (.node (o774_1035 P) .nil .nil)) (.node (o390_644 P) (.node (o646_905 P) .nil .nil) .nil)) (.node (o198_449 P) (.node (o326_580 P) (.node (o582_841 P) .nil .nil) (.node (o838_1099 P) .nil .nil)) (.node (o454_710 P) (.node (o710_969 P) .nil .nil) .nil))) (.node (o102_350 P) (.node (o166_417 P) (.node (o294_548 P) (.node (o550_809 P) .nil .nil) (.node (o806_1067 P) .nil .nil)) (.node (o422_678 P) (.node (o678_937 P) .nil .nil) .nil)) (.node (o230_481 P) (.node (o358_612 P) (.node (o614_873 P) .nil .nil) .nil) (.node (o486_745 P) (.node (o742_1003 P) .nil .nil) .nil)))) (.node (o54_300 P) (.node (o86_334 P) (.node (o150_398 P) (.node (o278_532 P) (.node (o534_793 P) .nil .nil) (.node (o790_1051 P) .nil .nil)) (.node (o406_662 P) (.node (o662_921 P) .nil .nil) .nil)) (.node (o214_465 P) (.node (o342_596 P) (.node (o598_857 P) .nil .nil) (.node (o854_1117 P) .nil .nil)) (.node (o470_726 P) (.node (o726_985 P) .nil .nil) .nil))) (.node (o118_366 P) (.node (o182_433 P) (.node (o310_564 P) (.node (o566_825 P) .nil .nil) (.node (o822_1083 P) .nil .nil)) (.node (o438_694 P) (.node (o694_953 P) .nil .nil) .nil)) (.node (o246_500 P) (.node (o374_628 P) (.node (o630_889 P) .nil .nil) .nil) (.node (o502_761 P) (.node (o758_1019 P) .nil .nil) .nil))))) (.node (o30_276 P) (.node (o46_292 P) (.node (o78_324 P) (.node (o142_390 P) (.node (o270_524 P) (.node (o526_785 P) .nil .nil) (.node (o782_1043 P) .nil .nil)) (.node (o398_652 P) (.node (o654_913 P) .nil .nil) .nil)) (.node (o206_457 P) (.node (o334_588 P) (.node (o590_849 P) .nil .nil) (.node (o846_1109 P) .nil .nil)) (.node (o462_718 P) (.node (o718_977 P) .nil .nil) .nil))) (.node (o110_358 P) (.node (o174_425 P) (.node (o302_556 P) (.node (o558_817 P) .nil .nil) (.node (o814_1075 P) .nil .nil)) (.node (o430_686 P) (.node (o686_945 P) .nil .nil) .nil)) (.node (o238_489 P) (.node (o366_620 P) (.node (o622_881 P) .nil .nil) .nil) (.node (o494_753 P) (.node (o750_1011 P) .nil .nil) .nil)))) (.node (o62_308 P) (.node (o94_342 P) (.node (o158_406 P) (.node (o286_540 P) (.node (o542_801 P) .nil .nil) (.node (o798_1059 P) .nil .nil)) (.node (o414_670 P) (.node (o670_929 P) .nil .nil) .nil)) (.node (o222_473 P) (.node (o350_604 P) (.node (o606_865 P) .nil .nil) .nil) (.node (o478_734 P) (.node (o734_993 P) .nil .nil) .nil))) (.node (o126_374 P) (.node (o190_441 P) (.node (o318_572 P) (.node (o574_833 P) .nil .nil) (.node (o830_1091 P) .nil .nil)) (.node (o446_702 P) (.node (o702_961 P) .nil .nil) .nil)) (.node (o254_508 P) (.node (o382_636 P) (.node (o638_897 P) .nil .nil) .nil) (.node (o510_769 P) (.node (o766_1027 P) .nil .nil) .nil)))))))))
noncomputable def looseT : List Str := [s0, s4, s9, s10, s11, s12, s13, s14, s15, s16, s17, s18, s19, s33, s38, s43, s44, s48, s50, s51, s55, s59, s61, s63, s64, s72, s74, s75, s77, s80, s81, s82, s83, s84, s94, s127, s138, s139, s141, s143, s149, s150, s151, s152, s153, s154, s155, s156, s157, s162, s163, s169, s170, s220, s241, s246]
noncomputable def H1 (P : Params) : Heap := ⟨⟨[o0_243 P, o1_244 P, o2_258 P, o3_1106 P, o4_247 P, o5_248 P, o6_249 P, o7_250 P, o8_251 P, o9_252 P, o10_253 P, o11_254 P, o12_1107 P, o13_256 P, o14_257 P, o15_261 P, o16_262 P, o17_263 P, o18_264 P, o19_265 P, o20_266 P, o21_267 P, o22_268 P, o23_269 P, o24_270 P, o25_271 P, o26_272 P, o27_273 P, o28_274 P, o29_275 P, o30_276 P, o31_277 P, o32_278 P, o33_279 P, o34_280 P, o35_281 P, o36_282 P, o37_283 P, o38_284 P, o39_285 P, o40_286 P, o41_287 P, o42_288 P, o43_289 P, o44_290 P, o45_291 P, o46_292 P, o47_293 P, o48_294 P, o49_295 P, o50_296 P, o51_297 P, o52_298 P, o53_299 P, o54_300 P, o55_301 P, o56_302 P, o57_303 P, o58_304 P, o59_305 P, o60_306 P, o61_307 P, o62_308 P, o63_309 P, o64_310 P, o65_311 P, o66_312 P, o67_313 P, o68_314 P, o69_315 P, o70_316 P, o71_317 P, o72_318 P, o73_319 P, o74_320 P, o75_321 P, o76_322 P, o77_323 P, o78_324 P, o79_325 P, o80_326 P, o81_327 P, o82_328 P, o83_329 P, o84_330 P, o85_333 P, o86_334 P, o87_335 P, o88_336 P, o89_337 P, o90_338 P, o91_339 P, o92_340 P, o93_341 P, o94_342 P, o95_343 P, o96_344 P, o97_345 P, o98_346 P, o99_347 P, o100_348 P, o101_741 P, o102_350 P, o103_351 P, o104_352 P, o105_353 P, o106_354 P, o107_355 P, o108_356 P, o109_357 P, o110_358 P, o111_359 P, o112_360 P, o113_361 P, o114_362 P, o115_363 P, o116_364 P, o117_365 P, o118_366 P, o119_367 P, o120_368 P, o121_369 P, o122_370 P, o123_371 P, o124_372 P, o125_373 P, o126_374 P, o127_375 P, o128_376 P, o129_377 P, o130_378 P, o131_379 P, o132_380 P, o133_381 P, o134_382 P, o135_383 P, o136_384 P, o137_385 P, o138_386 P, o139_387 P, o140_388 P, o141_389 P, o142_390 P, o143_391 P, o144_392 P, o145_393 P, o146_394 P, o147_395 P, o148_396 P, o149_397 P, o150_398 P, o151_399 P, o152_400 P, o153_401 P, o154_402 P, o155_403 P, o156_404 P, o157_405 P, o158_406 P, o159_407 P, o160_408 P, o161_409 P, o162_413 P, o163_414 P, o164_415 P, o165_416 P, o166_417 P, o167_418 P, o168_419 P, o169_420 P, o170_421 P, o171_422 P, o172_423 P, o173_424 P, o174_425 P, o175_426 P, o176_427 P, o177_428 P, o178_429 P, o179_430 P, o180_431 P, o181_432 P, o182_433 P, o183_434 P, o184_435 P, o185_436 P, o186_437 P, o187_438 P, o188_439 P, o189_440 P, o190_441 P, o191_442 P, o192_443 P, o193_444 P, o194_445 P, o195_446 P, o196_447 P, o197_448 P, o198_449 P, o199_450 P, o200_451 P, o201_452 P, o202_453 P, o203_454 P, o204_455 P, o205_456 P, o206_457 P, o207_458 P, o208_459 P, o209_460 P, o210_461 P, o211_462 P, o212_463 P, o213_464 P, o214_465 P, o215_466 P, o216_467 P, o217_468 P, o218_469 P, o219_470 P, o220_471 P, o221_472 P, o222_473 P, o223_474 P, o224_475 P, o225_476 P, o226_477 P, o227_478 P, o228_479 P, o229_480 P, o230_481 P, o231_482 P, o232_483 P, o233_484 P, o234_485 P, o235_486 P, o236_487 P, o237_488 P, o238_489 P, o239_490 P, o240_491 P, o241_492 P, o242_493 P, o243_494 P, o244_495 P, o245_499 P, o246_500 P, o247_501 P, o248_502 P, o249_503 P, o250_504 P, o251_505 P, o252_506 P, o253_507 P, o254_508 P, o255_509 P, o256_510 P, o257_511 P, o258_512 P, o259_513 P, o260_514 P, o261_515 P, o262_516 P, o263_517 P, o264_518 P, o265_519 P, o266_520 P, o267_521 P, o268_522 P, o269_523 P, o270_524 P, o271_525 P, o272_526 P, o273_527 P, o274_528 P, o275_529 P, o276_530 P, o277_531 P, o278_532 P, o279_533 P, o280_534 P, o281_535 P, o282_536 P, o283_537 P, o284_538 P, o285_539 P, o286_540 P, o287_541 P, o288_542 P, o289_543 P, o290_544 P, o291_545 P, o292_546 P, o293_547 P, o294_548 P, o295_549 P, o296_550 P, o297_551 P, o298_552 P, o299_553 P, o300_554 P, o301_555 P, o302_556 P, o303_557 P, o304_558 P, o305_559 P, o306_560 P, o307_561 P, o308_562 P, o309_563 P, o310_564 P, o311_565 P, o312_566 P, o313_567 P, o314_568 P, o315_569 P, o316_570 P, o317_571 P, o318_572 P, o319_573 P, o320_574 P, o321_575 P, o322_576 P, o323_577 P, o324_578 P, o325_579 P, o326_580 P, o327_581 P, o328_582 P, o329_583 P, o330_584 P, o331_585 P, o332_586 P, o333_587 P, o334_588 P, o335_589 P, o336_590 P, o337_591 P, o338_592 P, o339_593 P, o340_594 P, o341_595 P, o342_596 P, o343_597 P, o344_598 P, o345_599 P, o346_600 P, o347_601 P, o348_602 P, o349_603 P, o350_604 P, o351_605 P, o352_606 P, o353_607 P, o354_608 P, o355_609 P, o356_610 P, o357_611 P, o358_612 P, o359_613 P, o360_614 P, o361_615 P, o362_616 P, o363_617 P, o364_618 P, o365_619 P, o366_620 P, o367_621 P, o368_622 P, o369_623 P, o370_624 P, o371_625 P, o372_626 P, o373_627 P, o374_628 P, o375_629 P, o376_630 P, o377_631 P, o378_632 P, o379_633 P, o380_634 P, o381_635 P, o382_636 P, o383_637 P, o384_638 P, o385_639 P, o386_640 P, o387_641 P, o388_642 P, o389_643 P, o390_644 P, o391_645 P, o392_646 P, o393_647 P, o394_648 P, o395_649 P, o396_650 P, o397_651 P, o398_652 P, o399_653 P, o400_654 P, o401_655 P, o402_656 P, o403_657 P, o404_658 P, o405_659 P, o406_662 P, o407_663 P, o408_664 P, o409_665 P, o410_666 P, o411_667 P, o412_668 P, o413_669 P, o414_670 P, o415_671 P, o416_672 P, o417_673 P, o418_674 P, o419_675 P, o420_676 P, o421_677 P, o422_678 P, o423_679 P, o424_680 P, o425_681 P, o426_682 P, o427_683 P, o428_684 P, o429_685 P, o430_686 P, o431_687 P, o432_688 P, o433_689 P, o434_690 P, o435_691 P, o436_692 P, o437_693 P, o438_694 P, o439_695 P, o440_696 P, o441_697 P, o442_698 P, o443_699 P, o444_700 P, o445_701 P, o446_702 P, o447_703 P, o448_704 P, o449_705 P, o450_706 P, o451_707 P, o452_708 P, o453_709 P, o454_710 P, o455_711 P, o456_712 P, o457_713 P, o458_714 P, o459_715 P, o460_716 P, o461_717 P, o462_718 P, o463_719 P, o464_720 P, o465_721 P, o466_722 P, o467_723 P, o468_724 P, o469_725 P, o470_726 P, o471_727 P, o472_728 P, o473_729 P, o474_730 P, o475_731 P, o476_732 P, o477_733 P, o478_734 P, o479_735 P, o480_736 P, o481_737 P, o482_738 P, o483_742 P, o484_743 P, o485_744 P, o486_745 P, o487_746 P, o488_747 P, o489_748 P, o490_749 P, o491_750 P, o492_751 P, o493_752 P, o494_753 P, o495_754 P, o496_755 P, o497_756 P, o498_757 P, o499_758 P, o500_759 P, o501_760 P, o502_761 P, o503_762 P, o504_763 P, o505_764 P, o506_765 P, o507_766 P, o508_767 P, o509_768 P, o510_769 P, o511_770 P, o512_771 P, o513_772 P, o514_773 P, o515_774 P, o516_775 P, o517_776 P, o518_777 P, o519_778 P, o520_779 P, o521_780 P, o522_781 P, o523_782 P, o524_783 P, o525_784 P, o526_785 P, o527_786 P, o528_787 P, o529_788 P, o530_789 P, o531_790 P, o532_791 P, o533_792 P, o534_793 P, o535_794 P, o536_795 P, o537_796 P, o538_797 P, o539_798 P, o540_799 P, o541_800 P, o542_801 P, o543_802 P, o544_803 P, o545_804 P, o546_805 P, o547_806 P, o548_807 P, o549_808 P, o550_809 P, o551_810 P, o552_811 P, o553_812 P, o554_813 P, o555_814 P, o556_815 P, o557_816 P, o558_817 P, o559_818 P, o560_819 P, o561_820 P, o562_821 P, o563_822 P, o564_823 P, o565_824 P, o566_825 P, o567_826 P, o568_827 P, o569_828 P, o570_829 P, o571_830 P, o572_831 P, o573_832 P, o574_833 P, o575_834 P, o576_835 P, o577_836 P, o578_837 P, o579_838 P, o580_839 P, o581_840 P, o582_841 P, o583_842 P, o584_843 P, o585_844 P, o586_845 P, o587_846 P, o588_847 P, o589_848 P, o590_849 P, o591_850 P, o592_851 P, o593_852 P, o594_853 P, o595_854 P, o596_855 P, o597_856 P, o598_857 P, o599_858 P, o600_859 P, o601_860 P, o602_861 P, o603_862 P, o604_863 P, o605_864 P, o606_865 P, o607_866 P, o608_867 P, o609_868 P, o610_869 P, o611_870 P, o612_871 P, o613_872 P, o614_873 P, o615_874 P, o616_875 P, o617_876 P, o618_877 P, o619_878 P, o620_879 P, o621_880 P, o622_881 P, o623_882 P, o624_883 P, o625_884 P, o626_885 P, o627_886 P, o628_887 P, o629_888 P, o630_889 P, o631_890 P, o632_891 P, o633_892 P, o634_893 P, o635_894 P, o636_895 P, o637_896 P, o638_897 P, o639_898 P, o640_899 P, o641_900 P, o642_901 P, o643_902 P, o644_903 P, o645_904 P, o646_905 P, o647_906 P, o648_907 P, o649_908 P, o650_909 P, o651_910 P, o652_911 P, o653_912 P, o654_913 P, o655_914 P, o656_915 P, o657_916 P, o658_917 P, o659_918 P, o660_919 P, o661_920 P, o662_921 P, o663_922 P, o664_923 P, o665_924 P, o666_925 P, o667_926 P, o668_927 P, o669_928 P, o670_929 P, o671_930 P, o672_931 P, o673_932 P, o674_933 P, o675_934 P, o676_935 P, o677_936 P, o678_937 P, o679_938 P, o680_939 P, o681_940 P, o682_941 P, o683_942 P, o684_943 P, o685_944 P, o686_945 P, o687_946 P, o688_947 P, o689_948 P, o690_949 P, o691_950 P, o692_951 P, o693_952 P, o694_953 P, o695_954 P, o696_955 P, o697_956 P, o698_957 P, o699_958 P, o700_959 P, o701_960 P, o702_961 P, o703_962 P, o704_963 P, o705_964 P, o706_965 P, o707_966 P, o708_967 P, o709_968 P, o710_969 P, o711_970 P, o712_971 P, o713_972 P, o714_973 P, o715_974 P, o716_975 P, o717_976 P, o718_977 P, o719_978 P, o720_979 P, o721_980 P, o722_981 P, o723_982 P, o724_983 P, o725_984 P, o726_985 P, o727_986 P, o728_987 P, o729_988 P, o730_989 P, o731_990 P, o732_991 P, o733_992 P, o734_993 P, o735_994 P, o736_995 P, o737_996 P, o738_997 P, o739_998 P, o740_1001 P, o741_1002 P, o742_1003 P, o743_1004 P, o744_1005 P, o745_1006 P, o746_1007 P, o747_1008 P, o748_1009 P, o749_1010 P, o750_1011 P, o751_1012 P, o752_1013 P, o753_1014 P, o754_1015 P, o755_1016 P, o756_1017 P, o757_1018 P, o758_1019 P, o759_1020 P, o760_1021 P, o761_1022 P, o762_1023 P, o763_1024 P, o764_1025 P, o765_1026 P, o766_1027 P, o767_1028 P, o768_1029 P, o769_1030 P, o770_1031 P, o771_1032 P, o772_1033 P, o773_1034 P, o774_1035 P, o775_1036 P, o776_1037 P, o777_1038 P, o778_1039 P, o779_1040 P, o780_1041 P, o781_1042 P, o782_1043 P, o783_1044 P, o784_1045 P, o785_1046 P, o786_1047 P, o787_1048 P, o788_1049 P, o789_1050 P, o790_1051 P, o791_1052 P, o792_1053 P, o793_1054 P, o794_1055 P, o795_1056 P, o796_1057 P, o797_1058 P, o798_1059 P, o799_1060 P, o800_1061 P, o801_1062 P, o802_1063 P, o803_1064 P, o804_1065 P, o805_1066 P, o806_1067 P, o807_1068 P, o808_1069 P, o809_1070 P, o810_1071 P, o811_1072 P, o812_1073 P, o813_1074 P, o814_1075 P, o815_1076 P, o816_1077 P, o817_1078 P, o818_1079 P, o819_1080 P, o820_1081 P, o821_1082 P, o822_1083 P, o823_1084 P, o824_1085 P, o825_1086 P, o826_1087 P, o827_1088 P, o828_1089 P, o829_1090 P, o830_1091 P, o831_1092 P, o832_1093 P, o833_1094 P, o834_1095 P, o835_1096 P, o836_1097 P, o837_1098 P, o838_1099 P, o839_1100 P, o840_1101 P, o841_1102 P, o842_1103 P, o843_1104 P, o844_1105 P, o845_1108 P, o846_1109 P, o847_1110 P, o848_1111 P, o849_1112 P, o850_1113 P, o851_1114 P, o852_1115 P, o853_1116 P, o854_1117 P, o855_1118 P, o856_1119 P, o857_1120 P, o858_1121 P, o859_1122 P, o860_1123 P, o861_1124 P]⟩, {}⟩
noncomputable def g1 : List Stmt := [t2, t3, t6, t7, t8, t9, t10, t11, t12, t13, t14, t15, t16, t17, t23, t26]
noncomputable def g2 : List Stmt := [t29, t32, t35, t38, t41, t44, t47]
noncomputable def g3 : List Stmt := [t50, t53, t54, t55, t62, t65, t68, t71]
noncomputable def g4 : List Stmt := [t74, t75, t76, t77, t78, t79, t86, t113]
noncomputable def g5 : List Stmt := [t117, t120, t123, t124, t127, t128, t131, t132, t133, t134, t135, t136, t137, t138, t139, t141]
noncomputable def g6 : List Stmt := [t145, t148, t151, t154, t206]
noncomputable def g7 : List Stmt := [t207, t231]
noncomputable def g8 : List Stmt := [t232, t235, t238, t241]
end Mine
namespace Mine
open PySem PySem.W PySem.Calls PyProof.Rows
noncomputable def B : List Stmt := g1 ++ (g2 ++ (g3 ++ (g4 ++ (g5 ++ (g6 ++ (g7 ++ (g8 ++ [])))))))
noncomputable def pT : Program := { main := { body := B, scope := c242, futureAnnotations := false, file := s402, more := [] }, modules := [], parses := [], absent := [], harvested := [], given := { argv := [], stdin := [], environ := (some [([76, 67, 95, 65, 76, 76], [67, 46, 85, 84, 70, 45, 56])]) } }
noncomputable def envT : Env := { scope := c242, locals := mainNs, globals := mainNs, cells := [], code := .ref 13, frame := some 14 }
noncomputable def cE : Code := .body B envT
abbrev P0 : Pos := ⟨0,0,0,0⟩
noncomputable def S0 (w : World) (os : OsState) : SharedT := ⟨T0 w.params, 15, {}, #[], {}, 187, os⟩
noncomputable def S1 (w : World) (os : OsState) : SharedT := ⟨T1 w.params, 85, {}, #[], {}, 329, os⟩
theorem pc1 (w : World) (os : OsState) : segRunT treeTable pT w 11 (some (.ref 6)) 1 716 (S0 w os) (piecesOf g1 envT cE P0 [topFrame P0]) = some (.next, S1 w os, cE, ⟨38,0,43,34⟩) := by
  rw [Fast.te10110043849684766642, Fast.te14364793385576792824]
  unfold piecesOf
  rw [Fast.te12563942051412417395]
  kernel_rfl
noncomputable def S2 (w : World) (os : OsState) : SharedT := ⟨T2 w.params, 162, {}, #[], {}, 431, os⟩
theorem pc2 (w : World) (os : OsState) : segRunT treeTable pT w 11 (some (.ref 6)) 1 611 (S1 w os) (piecesOf g2 envT cE ⟨38,0,43,34⟩ [topFrame P0]) = some (.next, S2 w os, cE, ⟨82,0,88,16⟩) := by
  rw [Fast.te10110043849684766642, Fast.te14364793385576792824]
  unfold piecesOf
  rw [Fast.te12563942051412417395]
  kernel_rfl
noncomputable def S3 (w : World) (os : OsState) : SharedT := ⟨T3 w.params, 245, {}, #[], {}, 535, os⟩
theorem pc3 (w : World) (os : OsState) : segRunT treeTable pT w 11 (some (.ref 6)) 1 614 (S2 w os) (piecesOf g3 envT cE ⟨82,0,88,16⟩ [topFrame P0]) = some (.next, S3 w os, cE, ⟨138,0,139,64⟩) := by
  rw [Fast.te10110043849684766642, Fast.te14364793385576792824]
  unfold piecesOf
  rw [Fast.te12563942051412417395]
  kernel_rfl
noncomputable def S4 (w : World) (os : OsState) : SharedT := ⟨T4 w.params, 406, {}, #[], {}, 770, os⟩
theorem pc4 (w : World) (os : OsState) : segRunT treeTable pT w 11 (some (.ref 6)) 1 1220 (S3 w os) (piecesOf g4 envT cE ⟨138,0,139,64⟩ [topFrame P0]) = some (.next, S4 w os, cE, ⟨168,0,252,16⟩) := by
  rw [Fast.te10110043849684766642, Fast.te14364793385576792824]
  unfold piecesOf
  rw [Fast.te12563942051412417395]
  kernel_rfl
noncomputable def S5 (w : World) (os : OsState) : SharedT := ⟨T5 w.params, 483, {}, #[], {}, 905, os⟩
theorem pc5 (w : World) (os : OsState) : segRunT treeTable pT w 11 (some (.ref 6)) 1 718 (S4 w os) (piecesOf g5 envT cE ⟨168,0,252,16⟩ [topFrame P0]) = some (.next, S5 w os, cE, ⟨305,0,308,28⟩) := by
  rw [Fast.te10110043849684766642, Fast.te14364793385576792824]
  unfold piecesOf
  rw [Fast.te12563942051412417395]
  kernel_rfl
noncomputable def S6 (w : World) (os : OsState) : SharedT := ⟨T6 w.params, 740, {}, #[], {}, 1278, os⟩
theorem pc6 (w : World) (os : OsState) : segRunT treeTable pT w 11 (some (.ref 6)) 1 1537 (S5 w os) (piecesOf g6 envT cE ⟨305,0,308,28⟩ [topFrame P0]) = some (.next, S6 w os, cE, ⟨345,0,590,17⟩) := by
  rw [Fast.te10110043849684766642, Fast.te14364793385576792824]
  unfold piecesOf
  rw [Fast.te12563942051412417395]
  kernel_rfl
noncomputable def S7 (w : World) (os : OsState) : SharedT := ⟨T7 w.params, 845, {}, #[], {}, 1413, os⟩
theorem pc7 (w : World) (os : OsState) : segRunT treeTable pT w 11 (some (.ref 6)) 1 624 (S6 w os) (piecesOf g7 envT cE ⟨345,0,590,17⟩ [topFrame P0]) = some (.next, S7 w os, cE, ⟨592,0,637,17⟩) := by
  rw [Fast.te10110043849684766642, Fast.te14364793385576792824]
  unfold piecesOf
  rw [Fast.te12563942051412417395]
  kernel_rfl
noncomputable def S8 (w : World) (os : OsState) : SharedT := ⟨T8 w.params, 862, {}, #[], {}, 1437, os⟩
theorem pc8 (w : World) (os : OsState) : segRunT treeTable pT w 11 (some (.ref 6)) 1 94 (S7 w os) (piecesOf g8 envT cE ⟨592,0,637,17⟩ [topFrame P0]) = some (.next, S8 w os, cE, ⟨656,0,682,88⟩) := by
  rw [Fast.te10110043849684766642, Fast.te14364793385576792824]
  unfold piecesOf
  rw [Fast.te12563942051412417395]
  kernel_rfl
theorem pcpre (w : World) (os : OsState) : topGo treeTable pT w 11 (some (.ref 6)) 12 ⟨boot_heap w.params, #[], boot_drawn, boot_toks, os⟩ (topStub pT) = some ((S0 w os).abs, ⟨denote treeTable cE, cE, P0, [topFrame P0]⟩) := by
  rw [Fast.te15667345088766844465, Fast.te14364793385576792824, Fast.te11892475500146522536]
  kernel_rfl
theorem pcblock (w : World) (os : OsState) : segRun treeTable pT w 11 (some (.ref 6)) 1 1 (S0 w os).abs (blockOf B envT cE P0 [topFrame P0]) = some (.next, (S0 w os).abs, cE, P0) := by
  kernel_rfl
theorem pcfin (w : World) (os : OsState) : topRun treeTable pT w 11 (some (.ref 6)) 2 (S8 w os).abs ⟨doneF .next, cE, ⟨656,0,682,88⟩, [topFrame P0]⟩ = some ⟨H1 w.params, #[], {}, 1437, os⟩ := by
  rw [Fast.te14082659384304107361, Fast.te14364793385576792824]
  kernel_rfl
theorem pcrun (w : World) (os : OsState) : topRun treeTable pT w 11 (some (.ref 6)) (12 + (1 + (716 + (611 + (614 + (1220 + (718 + (1537 + (624 + (94 + 2)))))))))) ⟨boot_heap w.params, #[], boot_drawn, boot_toks, os⟩ (topStub pT) = some ⟨H1 w.params, #[], {}, 1437, os⟩ :=
  go_top (pcpre w os) (piece_block (pcblock w os) (piece_app (segRun_of (pc1 w os)) (piece_app (segRun_of (pc2 w os)) (piece_app (segRun_of (pc3 w os)) (piece_app (segRun_of (pc4 w os)) (piece_app (segRun_of (pc5 w os)) (piece_app (segRun_of (pc6 w os)) (piece_app (segRun_of (pc7 w os)) (piece_app (segRun_of (pc8 w os)) (pcfin w os))))))))))
end Mine
namespace Mine
open PySem PySem.W PySem.Calls PyProof.Rows
noncomputable def qT : Program := { pT with main := { pT.main with body := [t241] } }
noncomputable def lT : OpenLaw := { prog := pT, name := s251, about := [s141], foot := 3, most := some 63, bound := none, writes := false }
noncomputable abbrev XtT (s : Shared) : Bool := xlAt qT [] s && recOk [] s
theorem lk_open : ∀ w : World, (fencedOpening treeTable pT w 20000).map (fun s => (s.heap, s.gens, s.drawn, s.toks)) = some (boot_heap w.params, Array.mk [], boot_drawn, boot_toks) :=
  boot_open (by kernel_rfl) (by kernel_rfl) (by intro s; kernel_rfl)
theorem lk_size : ∀ w : World, ((boot_heap w.params).isNs mainGlobals && (Array.mk [] : Array GenState).size == 0, (boot_heap w.params).objs.size, (boot_heap w.params).nsMap mainGlobals "__annotations__") = (true, 11, some (.ref 6)) := by
  intro w
  rw [Fast.te8920871248978507458]
  kernel_rfl
noncomputable abbrev ST (w : World) (os : OsState) : Shared := ⟨H1 w.params, #[], {}, 1437, os⟩
theorem lk_a (w : World) (os : OsState) : (staticsOk (importedModules pT.main.body) (boot_heap w.params) (H1 w.params) && namesBound pT (H1 w.params) && gensDone (ST w os) && laidKept (boot_heap w.params) (H1 w.params)) = true := by
  unfold staticsOk namesBound laidKept
  rw [Fast.te5923862056798008813, Fast.te8920871248978507458, Fast.te4857012375875476094, Fast.te1584917186373303978, Fast.te12749700546528644094, Fast.te18344453789297297638, W.R.allR_eq]
  kernel_rfl
theorem lk_b (w : World) (os : OsState) : openSeen qT looseT (importedModules pT.main.body) XtT true (ST w os) = openGood qT looseT := by
  rw [Fast.te4187177175401517315, Fast.te5923862056798008813]
  unfold openGood
  kernel_rfl
theorem lk_chains : chainsOk qT = true := by kernel_rfl
end Mine
namespace Mine
open PySem PySem.W PySem.Calls PyProof.Rows
noncomputable def KT : Params → Frag := fun P =>
  (nat_lit 2, ⟨.none, none, (.dict #[⟨(PySem.PyData.keyHash P (.ofString "type.__subclasses__.Exception.0")), (.str (.ofString "type.__subclasses__.Exception.0") 325), (.int 81 0)⟩, ⟨(PySem.PyData.keyHash P (.ofString "type.__subclasses__.Exception.n")), (.str (.ofString "type.__subclasses__.Exception.n") 326), (.int 1 0)⟩] 2), #[]⟩) ::
  (nat_lit 3, ⟨(.type "dict"), none, (.dict #[⟨(PySem.PyData.keyHash P (.ofString "__name__")), (.str (.ofString "__name__") 165), (.str (.ofString "law_rh0170_01") 1413)⟩, ⟨(PySem.PyData.keyHash P (.ofString "__doc__")), (.str (.ofString "__doc__") 166), .none⟩, ⟨(PySem.PyData.keyHash P (.ofString "__package__")), (.str (.ofString "__package__") 167), .none⟩, ⟨(PySem.PyData.keyHash P (.ofString "__loader__")), (.str (.ofString "__loader__") 168), (.builtin "__main__.__loader__#opaque")⟩, ⟨(PySem.PyData.keyHash P (.ofString "__spec__")), (.str (.ofString "__spec__") 169), .none⟩, ⟨(PySem.PyData.keyHash P (.ofString "__annotations__")), (.str (.ofString "__annotations__") 170), (.ref 6)⟩, ⟨(PySem.PyData.keyHash P (.ofString "__builtins__")), (.str (.ofString "__builtins__") 171), (.ref 4)⟩, ⟨(PySem.PyData.keyHash P (.ofString "__file__")), (.str (.ofString "__file__") 173), (.str (.ofString "/claim/cut.py") 172)⟩, ⟨(PySem.PyData.keyHash P (.ofString "__cached__")), (.str (.ofString "__cached__") 174), .none⟩, ⟨(PySem.PyData.keyHash P (.ofString "_wall")), (.str (.ofString "_wall") 193), (.ref 21)⟩, ⟨(PySem.PyData.keyHash P (.ofString "unwound")), (.str (.ofString "unwound") 203), (.ref 28)⟩, ⟨(PySem.PyData.keyHash P (.ofString "T_NONE")), (.str (.ofString "T_NONE") 208), (.int (-1) 207)⟩, ⟨(PySem.PyData.keyHash P (.ofString "T_NIL")), (.str (.ofString "T_NIL") 210), (.int 0 209)⟩, ⟨(PySem.PyData.keyHash P (.ofString "T_BOOLEAN")), (.str (.ofString "T_BOOLEAN") 212), (.int 1 211)⟩, ⟨(PySem.PyData.keyHash P (.ofString "T_LIGHT")), (.str (.ofString "T_LIGHT") 214), (.int 2 213)⟩, ⟨(PySem.PyData.keyHash P (.ofString "T_NUMBER")), (.str (.ofString "T_NUMBER") 216), (.int 3 215)⟩, ⟨(PySem.PyData.keyHash P (.ofString "T_STRING")), (.str (.ofString "T_STRING") 218), (.int 4 217)⟩, ⟨(PySem.PyData.keyHash P (.ofString "T_TABLE")), (.str (.ofString "T_TABLE") 220), (.int 5 219)⟩, ⟨(PySem.PyData.keyHash P (.ofString "T_THREAD")), (.str (.ofString "T_THREAD") 222), (.int 8 221)⟩, ⟨(PySem.PyData.keyHash P (.ofString "T_UPVAL")), (.str (.ofString "T_UPVAL") 224), (.int 10 223)⟩, ⟨(PySem.PyData.keyHash P (.ofString "HASH_MASK")), (.str (.ofString "HASH_MASK") 226), (.int 4294967295 225)⟩, ⟨(PySem.PyData.keyHash P (.ofString "Limits")), (.str (.ofString "Limits") 297), (.ref 60)⟩, ⟨(PySem.PyData.keyHash P (.ofString "LuaError")), (.str (.ofString "LuaError") 328), (.ref 81)⟩, ⟨(PySem.PyData.keyHash P (.ofString "HeapObject")), (.str (.ofString "HeapObject") 361), (.ref 101)⟩, ⟨(PySem.PyData.keyHash P (.ofString "LightValue")), (.str (.ofString "LightValue") 390), (.ref 122)⟩, ⟨(PySem.PyData.keyHash P (.ofString "is_number")), (.str (.ofString "is_number") 397), (.ref 133)⟩, ⟨(PySem.PyData.keyHash P (.ofString "type_of")), (.str (.ofString "type_of") 404), (.ref 140)⟩, ⟨(PySem.PyData.keyHash P (.ofString "is_collectable")), (.str (.ofString "is_collectable") 411), (.ref 147)⟩, ⟨(PySem.PyData.keyHash P (.ofString "raw_equal")), (.str (.ofString "raw_equal") 420), (.ref 154)⟩, ⟨(PySem.PyData.keyHash P (.ofString "string_hash")), (.str (.ofString "string_hash") 430), (.ref 161)⟩, ⟨(PySem.PyData.keyHash P (.ofString "log2")), (.str (.ofString "log2") 438), (.ref 168)⟩, ⟨(PySem.PyData.keyHash P (.ofString "ceil_log2")), (.str (.ofString "ceil_log2") 445), (.ref 175)⟩, ⟨(PySem.PyData.keyHash P (.ofString "SIZE_UPVAL")), (.str (.ofString "SIZE_UPVAL") 449), (.int 4 448)⟩, ⟨(PySem.PyData.keyHash P (.ofString "UpVal")), (.str (.ofString "UpVal") 508), (.ref 221)⟩, ⟨(PySem.PyData.keyHash P (.ofString "spot_of")), (.str (.ofString "spot_of") 517), (.ref 230)⟩, ⟨(PySem.PyData.keyHash P (.ofString "open_at")), (.str (.ofString "open_at") 526), (.ref 237)⟩, ⟨(PySem.PyData.keyHash P (.ofString "put_open")), (.str (.ofString "put_open") 534), (.ref 244)⟩, ⟨(PySem.PyData.keyHash P (.ofString "take_closed")), (.str (.ofString "take_closed") 544), (.ref 251)⟩, ⟨(PySem.PyData.keyHash P (.ofString "THREAD_OK")), (.str (.ofString "THREAD_OK") 548), (.int 0 547)⟩, ⟨(PySem.PyData.keyHash P (.ofString "MULTIPLE")), (.str (.ofString "MULTIPLE") 551), (.int (-1) 550)⟩, ⟨(PySem.PyData.keyHash P (.ofString "MIN_STACK")), (.str (.ofString "MIN_STACK") 553), (.int 20 552)⟩, ⟨(PySem.PyData.keyHash P (.ofString "SIZE_THREAD")), (.str (.ofString "SIZE_THREAD") 555), (.int 20 554)⟩, ⟨(PySem.PyData.keyHash P (.ofString "CallInfo")), (.str (.ofString "CallInfo") 608), (.ref 282)⟩, ⟨(PySem.PyData.keyHash P (.ofString "Thread")), (.str (.ofString "Thread") 769), (.ref 403)⟩, ⟨(PySem.PyData.keyHash P (.ofString "Global")), (.str (.ofString "Global") 814), (.ref 429)⟩, ⟨(PySem.PyData.keyHash P (.ofString "find_upval")), (.str (.ofString "find_upval") 823), (.ref 440)⟩, ⟨(PySem.PyData.keyHash P (.ofString "close_upvals")), (.str (.ofString "close_upvals") 832), (.ref 447)⟩, ⟨(PySem.PyData.keyHash P (.ofString "grounded")), (.str (.ofString "grounded") 841), (.ref 454)⟩, ⟨(PySem.PyData.keyHash P (.ofString "weak_mode")), (.str (.ofString "weak_mode") 854), (.ref 461)⟩, ⟨(PySem.PyData.keyHash P (.ofString "MAX_BITS")), (.str (.ofString "MAX_BITS") 858), (.int 26 857)⟩, ⟨(PySem.PyData.keyHash P (.ofString "MAX_ARRAY")), (.str (.ofString "MAX_ARRAY") 861), (.int 67108864 860)⟩, ⟨(PySem.PyData.keyHash P (.ofString "MOST_SLOTS")), (.str (.ofString "MOST_SLOTS") 865), (.int 4194304 864)⟩, ⟨(PySem.PyData.keyHash P (.ofString "MOST_PLACES")), (.str (.ofString "MOST_PLACES") 869), (.int 1048576 868)⟩, ⟨(PySem.PyData.keyHash P (.ofString "BASE_SIZE")), (.str (.ofString "BASE_SIZE") 871), (.int 56 870)⟩, ⟨(PySem.PyData.keyHash P (.ofString "SLOT_SIZE")), (.str (.ofString "SLOT_SIZE") 873), (.int 16 872)⟩, ⟨(PySem.PyData.keyHash P (.ofString "NODE_SIZE")), (.str (.ofString "NODE_SIZE") 875), (.int 32 874)⟩, ⟨(PySem.PyData.keyHash P (.ofString "DeadKey")), (.str (.ofString "DeadKey") 904), (.ref 478)⟩, ⟨(PySem.PyData.keyHash P (.ofString "Node")), (.str (.ofString "Node") 942), (.ref 506)⟩, ⟨(PySem.PyData.keyHash P (.ofString "array_index")), (.str (.ofString "array_index") 949), (.ref 517)⟩, ⟨(PySem.PyData.keyHash P (.ofString "compute_sizes")), (.str (.ofString "compute_sizes") 962), (.ref 524)⟩, ⟨(PySem.PyData.keyHash P (.ofString "count_key")), (.str (.ofString "count_key") 971), (.ref 531)⟩, ⟨(PySem.PyData.keyHash P (.ofString "Table")), (.str (.ofString "Table") 1277), (.ref 737)⟩, ⟨(PySem.PyData.keyHash P (.ofString "PlainHeap")), (.str (.ofString "PlainHeap") 1412), (.ref 840)⟩, ⟨(PySem.PyData.keyHash P (.ofString "_law_swept")), (.str (.ofString "_law_swept") 1424), (.ref 851)⟩, ⟨(PySem.PyData.keyHash P (.ofString "_law_mode_right")), (.str (.ofString "_law_mode_right") 1430), (.ref 856)⟩, ⟨(PySem.PyData.keyHash P (.ofString "law")), (.str (.ofString "law") 1436), (.ref 861)⟩] 66), #[]⟩) ::
  (nat_lit 20, ⟨(.type "code"), none, (.fields #[(.str (.ofString "_wall") 187), (.str (.ofString "_wall") 188), (.str (.ofString "/claim/cut.py") 189), (.int 1 0), (.int 1 0), (.int 0 0), (.int 0 0), (.int 3 0), (.ref 15), (.bool true), (.int 181 0), (.ref 16), .none, (.ref 17), (.ref 18), (.ref 19), (.int 191 0), (.int 1 0), (.str (.ofString "/claim/cut.py") 192)]), #[]⟩) ::
  (nat_lit 21, ⟨(.type "function"), none, (.func ⟨(.ofString "_wall"), (.ofString "_wall"), ⟨[], [⟨(.ofString "k"), none, ⟨1, 10, 1, 11⟩⟩], none, [], [], none, []⟩, (.stmts (bAt 0)), ⟨.function, [((.ofString "k"), .local)], false, false, []⟩, 3, [], .none, .none, .none, (.str (.ofString "__main__") 164), none, (.ref 20), .none, 0⟩), #[]⟩) ::
  (nat_lit 27, ⟨(.type "code"), none, (.fields #[(.str (.ofString "unwound") 196), (.str (.ofString "unwound") 197), (.str (.ofString "/claim/cut.py") 198), (.int 5 0), (.int 2 0), (.int 0 0), (.int 0 0), (.int 3 0), (.ref 22), (.bool true), (.int 181 0), (.ref 23), .none, (.ref 24), (.ref 25), (.ref 26), (.int 201 0), (.int 5 0), (.str (.ofString "/claim/cut.py") 202)]), #[]⟩) ::
  (nat_lit 28, ⟨(.type "function"), none, (.func ⟨(.ofString "unwound"), (.ofString "unwound"), ⟨[], [⟨(.ofString "frames"), none, ⟨5, 12, 5, 18⟩⟩, ⟨(.ofString "depth"), none, ⟨5, 20, 5, 25⟩⟩], none, [], [], none, []⟩, (.stmts (bAt 2)), ⟨.function, [((.ofString "frames"), .local), ((.ofString "depth"), .local), ((.ofString "len"), .globalImplicit)], false, false, []⟩, 3, [], .none, .none, .none, (.str (.ofString "lua.frames") 194), none, (.ref 27), .none, 0⟩), #[]⟩) ::
  (nat_lit 36, ⟨(.type "tuple"), none, (.seq #[(.int 64 239), (.int 250 240), (.int 60 241), (.int 200 242), (.int 40 243), (.int 200 244), (.int 2000 245), (.int 50 246), (.int 1000000000 247), (.int 1000000 248)] 0), #[]⟩) ::
  (nat_lit 42, ⟨(.type "code"), none, (.fields #[(.str (.ofString "__init__") 249), (.str (.ofString "Limits.__init__") 250), (.str (.ofString "/claim/cut.py") 251), (.int 21 0), (.int 11 0), (.int 0 0), (.int 0 0), (.int 3 0), (.ref 37), (.bool true), (.int 181 0), (.ref 38), .none, (.ref 39), (.ref 40), (.ref 41), (.int 263 0), (.int 21 0), (.str (.ofString "/claim/cut.py") 264)]), #[]⟩) ::
  (nat_lit 43, ⟨(.type "function"), none, (.func ⟨(.ofString "__init__"), (.ofString "Limits.__init__"), ⟨[], [⟨(.ofString "self"), none, ⟨21, 17, 21, 21⟩⟩, ⟨(.ofString "width"), none, ⟨21, 23, 21, 28⟩⟩, ⟨(.ofString "registers"), none, ⟨21, 33, 21, 42⟩⟩, ⟨(.ofString "upvalues"), none, ⟨21, 48, 21, 56⟩⟩, ⟨(.ofString "local_names"), none, ⟨21, 61, 21, 72⟩⟩, ⟨(.ofString "ccalls"), none, ⟨21, 78, 21, 84⟩⟩, ⟨(.ofString "frames"), none, ⟨21, 89, 21, 95⟩⟩, ⟨(.ofString "stack"), none, ⟨21, 101, 21, 106⟩⟩, ⟨(.ofString "flush"), none, ⟨21, 113, 21, 118⟩⟩, ⟨(.ofString "steps"), none, ⟨21, 123, 21, 128⟩⟩, ⟨(.ofString "text"), none, ⟨21, 141, 21, 145⟩⟩], none, [], [], none, [(.Constant (.int 64) 0 ⟨21, 29, 21, 31⟩), (.Constant (.int 250) 0 ⟨21, 43, 21, 46⟩), (.Constant (.int 60) 0 ⟨21, 57, 21, 59⟩), (.Constant (.int 200) 0 ⟨21, 73, 21, 76⟩), (.Constant (.int 40) 0 ⟨21, 85, 21, 87⟩), (.Constant (.int 200) 0 ⟨21, 96, 21, 99⟩), (.Constant (.int 2000) 0 ⟨21, 107, 21, 111⟩), (.Constant (.int 50) 0 ⟨21, 119, 21, 121⟩), (.Constant (.int 1000000000) 0 ⟨21, 129, 21, 139⟩), (.Constant (.int 1000000) 0 ⟨21, 146, 21, 153⟩)]⟩, (.stmts (mAt 14 0)), ⟨.function, [((.ofString "self"), .local), ((.ofString "width"), .local), ((.ofString "registers"), .local), ((.ofString "upvalues"), .local), ((.ofString "local_names"), .local), ((.ofString "ccalls"), .local), ((.ofString "frames"), .local), ((.ofString "stack"), .local), ((.ofString "flush"), .local), ((.ofString "steps"), .local), ((.ofString "text"), .local)], false, false, []⟩, 3, [], (.ref 36), .none, .none, (.str (.ofString "lua.values") 204), none, (.ref 42), .none, 0⟩), #[]⟩) ::
  (nat_lit 49, ⟨(.type "code"), none, (.fields #[(.str (.ofString "greatest") 266), (.str (.ofString "Limits.greatest") 267), (.str (.ofString "/claim/cut.py") 268), (.int 33 0), (.int 1 0), (.int 0 0), (.int 0 0), (.int 3 0), (.ref 44), (.bool true), (.int 181 0), (.ref 45), .none, (.ref 46), (.ref 47), (.ref 48), (.int 270 0), (.int 33 0), (.str (.ofString "/claim/cut.py") 271)]), #[]⟩) ::
  (nat_lit 50, ⟨(.type "function"), none, (.func ⟨(.ofString "greatest"), (.ofString "Limits.greatest"), ⟨[], [⟨(.ofString "self"), none, ⟨33, 17, 33, 21⟩⟩], none, [], [], none, []⟩, (.stmts (mAt 14 1)), ⟨.function, [((.ofString "self"), .local)], false, false, []⟩, 3, [], .none, .none, .none, (.str (.ofString "lua.values") 204), none, (.ref 49), .none, 0⟩), #[]⟩) ::
  (nat_lit 56, ⟨(.type "code"), none, (.fields #[(.str (.ofString "least") 273), (.str (.ofString "Limits.least") 274), (.str (.ofString "/claim/cut.py") 275), (.int 36 0), (.int 1 0), (.int 0 0), (.int 0 0), (.int 3 0), (.ref 51), (.bool true), (.int 181 0), (.ref 52), .none, (.ref 53), (.ref 54), (.ref 55), (.int 277 0), (.int 36 0), (.str (.ofString "/claim/cut.py") 278)]), #[]⟩) ::
  (nat_lit 57, ⟨(.type "function"), none, (.func ⟨(.ofString "least"), (.ofString "Limits.least"), ⟨[], [⟨(.ofString "self"), none, ⟨36, 14, 36, 18⟩⟩], none, [], [], none, []⟩, (.stmts (mAt 14 2)), ⟨.function, [((.ofString "self"), .local)], false, false, []⟩, 3, [], .none, .none, .none, (.str (.ofString "lua.values") 204), none, (.ref 56), .none, 0⟩), #[]⟩) ::
  (nat_lit 59, ⟨(.type "dict"), none, (.dict #[⟨(PySem.PyData.keyHash P (.ofString "__module__")), (.str (.ofString "__module__") 234), (.str (.ofString "lua.values") 204)⟩, ⟨(PySem.PyData.keyHash P (.ofString "__firstlineno__")), (.str (.ofString "__firstlineno__") 238), (.int 19 237)⟩, ⟨(PySem.PyData.keyHash P (.ofString "__init__")), (.str (.ofString "__init__") 265), (.ref 43)⟩, ⟨(PySem.PyData.keyHash P (.ofString "greatest")), (.str (.ofString "greatest") 272), (.ref 50)⟩, ⟨(PySem.PyData.keyHash P (.ofString "least")), (.str (.ofString "least") 279), (.ref 57)⟩, ⟨(PySem.PyData.keyHash P (.ofString "__static_attributes__")), (.str (.ofString "__static_attributes__") 290), (.ref 58)⟩, ⟨(PySem.PyData.keyHash P (.ofString "__dict__")), (.str (.ofString "__dict__") 292), (.ref 61)⟩, ⟨(PySem.PyData.keyHash P (.ofString "__weakref__")), (.str (.ofString "__weakref__") 294), (.ref 62)⟩, ⟨(PySem.PyData.keyHash P (.ofString "__doc__")), (.str (.ofString "__doc__") 295), .none⟩] 4), #[]⟩) ::
  (nat_lit 60, ⟨(.type "type"), none, (.cls ⟨(.ofString "Limits"), [(.type "object")], [(.ref 60), (.type "object")], 59, (.ofString "Limits"), true, [], [], false, none, false⟩), #[none, none, (some (.str (.ofString "Limits") 227)), (some (.str (.ofString "Limits") 235)), (some (.builtin "object.__new__")), (some (.bool true))]⟩) ::
  (nat_lit 77, ⟨(.type "code"), none, (.fields #[(.str (.ofString "__init__") 310), (.str (.ofString "LuaError.__init__") 311), (.str (.ofString "/claim/cut.py") 312), (.int 40 0), (.int 2 0), (.int 0 0), (.int 0 0), (.int 3 0), (.ref 72), (.bool true), (.int 181 0), (.ref 73), .none, (.ref 74), (.ref 75), (.ref 76), (.int 315 0), (.int 40 0), (.str (.ofString "/claim/cut.py") 316)]), #[]⟩) ::
  (nat_lit 78, ⟨(.type "function"), none, (.func ⟨(.ofString "__init__"), (.ofString "LuaError.__init__"), ⟨[], [⟨(.ofString "self"), none, ⟨40, 17, 40, 21⟩⟩, ⟨(.ofString "value"), none, ⟨40, 23, 40, 28⟩⟩], none, [], [], none, []⟩, (.stmts (mAt 15 0)), ⟨.function, [((.ofString "self"), .local), ((.ofString "value"), .local)], false, false, []⟩, 3, [], .none, .none, .none, (.str (.ofString "lua.values") 204), none, (.ref 77), .none, 0⟩), #[]⟩) ::
  (nat_lit 80, ⟨(.type "dict"), none, (.dict #[⟨(PySem.PyData.keyHash P (.ofString "__module__")), (.str (.ofString "__module__") 305), (.str (.ofString "lua.values") 204)⟩, ⟨(PySem.PyData.keyHash P (.ofString "__firstlineno__")), (.str (.ofString "__firstlineno__") 309), (.int 38 308)⟩, ⟨(PySem.PyData.keyHash P (.ofString "__init__")), (.str (.ofString "__init__") 317), (.ref 78)⟩, ⟨(PySem.PyData.keyHash P (.ofString "__static_attributes__")), (.str (.ofString "__static_attributes__") 321), (.ref 79)⟩, ⟨(PySem.PyData.keyHash P (.ofString "__weakref__")), (.str (.ofString "__weakref__") 323), (.ref 82)⟩, ⟨(PySem.PyData.keyHash P (.ofString "__doc__")), (.str (.ofString "__doc__") 324), .none⟩] 3), #[]⟩) ::
  (nat_lit 81, ⟨(.type "type"), none, (.cls ⟨(.ofString "LuaError"), [(.type "Exception")], [(.ref 81), (.type "Exception"), (.type "BaseException"), (.type "object")], 80, (.ofString "LuaError"), true, [], [], false, none, false⟩), #[(some (.ref 65)), none, (some (.str (.ofString "LuaError") 298)), (some (.str (.ofString "LuaError") 306)), (some (.builtin "Exception.__new__")), (some (.bool true))]⟩) ::
  (nat_lit 97, ⟨(.type "code"), none, (.fields #[(.str (.ofString "__init__") 342), (.str (.ofString "HeapObject.__init__") 343), (.str (.ofString "/claim/cut.py") 344), (.int 47 0), (.int 3 0), (.int 0 0), (.int 0 0), (.int 3 0), (.ref 92), (.bool true), (.int 181 0), (.ref 93), .none, (.ref 94), (.ref 95), (.ref 96), (.int 348 0), (.int 47 0), (.str (.ofString "/claim/cut.py") 349)]), #[]⟩) ::
  (nat_lit 98, ⟨(.type "function"), none, (.func ⟨(.ofString "__init__"), (.ofString "HeapObject.__init__"), ⟨[], [⟨(.ofString "self"), none, ⟨47, 17, 47, 21⟩⟩, ⟨(.ofString "number"), none, ⟨47, 23, 47, 29⟩⟩, ⟨(.ofString "size"), none, ⟨47, 31, 47, 35⟩⟩], none, [], [], none, []⟩, (.stmts (mAt 16 1)), ⟨.function, [((.ofString "self"), .local), ((.ofString "number"), .local), ((.ofString "size"), .local)], false, false, []⟩, 3, [], .none, .none, .none, (.str (.ofString "lua.values") 204), none, (.ref 97), .none, 0⟩), #[]⟩) ::
  (nat_lit 100, ⟨(.type "dict"), none, (.dict #[⟨(PySem.PyData.keyHash P (.ofString "__module__")), (.str (.ofString "__module__") 336), (.str (.ofString "lua.values") 204)⟩, ⟨(PySem.PyData.keyHash P (.ofString "__firstlineno__")), (.str (.ofString "__firstlineno__") 340), (.int 44 339)⟩, ⟨(PySem.PyData.keyHash P (.ofString "kind")), (.str (.ofString "kind") 341), (.int (-1) 207)⟩, ⟨(PySem.PyData.keyHash P (.ofString "__init__")), (.str (.ofString "__init__") 350), (.ref 98)⟩, ⟨(PySem.PyData.keyHash P (.ofString "__static_attributes__")), (.str (.ofString "__static_attributes__") 354), (.ref 99)⟩, ⟨(PySem.PyData.keyHash P (.ofString "__dict__")), (.str (.ofString "__dict__") 356), (.ref 102)⟩, ⟨(PySem.PyData.keyHash P (.ofString "__weakref__")), (.str (.ofString "__weakref__") 358), (.ref 103)⟩, ⟨(PySem.PyData.keyHash P (.ofString "__doc__")), (.str (.ofString "__doc__") 359), .none⟩] 4), #[]⟩) ::
  (nat_lit 101, ⟨(.type "type"), none, (.cls ⟨(.ofString "HeapObject"), [(.type "object")], [(.ref 101), (.type "object")], 100, (.ofString "HeapObject"), true, [], [(.ref 221), (.ref 403), (.ref 737)], false, none, false⟩), #[none, none, (some (.str (.ofString "HeapObject") 329)), (some (.str (.ofString "HeapObject") 337)), (some (.builtin "object.__new__")), (some (.bool true))]⟩) ::
  (nat_lit 118, ⟨(.type "code"), none, (.fields #[(.str (.ofString "__init__") 374), (.str (.ofString "LightValue.__init__") 375), (.str (.ofString "/claim/cut.py") 376), (.int 53 0), (.int 2 0), (.int 0 0), (.int 0 0), (.int 3 0), (.ref 113), (.bool true), (.int 181 0), (.ref 114), .none, (.ref 115), (.ref 116), (.ref 117), (.int 379 0), (.int 53 0), (.str (.ofString "/claim/cut.py") 380)]), #[]⟩) ::
  (nat_lit 119, ⟨(.type "function"), none, (.func ⟨(.ofString "__init__"), (.ofString "LightValue.__init__"), ⟨[], [⟨(.ofString "self"), none, ⟨53, 17, 53, 21⟩⟩, ⟨(.ofString "number"), none, ⟨53, 23, 53, 29⟩⟩], none, [], [], none, []⟩, (.stmts (mAt 17 0)), ⟨.function, [((.ofString "self"), .local), ((.ofString "number"), .local)], false, false, []⟩, 3, [], .none, .none, .none, (.str (.ofString "lua.values") 204), none, (.ref 118), .none, 0⟩), #[]⟩) ::
  (nat_lit 121, ⟨(.type "dict"), none, (.dict #[⟨(PySem.PyData.keyHash P (.ofString "__module__")), (.str (.ofString "__module__") 369), (.str (.ofString "lua.values") 204)⟩, ⟨(PySem.PyData.keyHash P (.ofString "__firstlineno__")), (.str (.ofString "__firstlineno__") 373), (.int 51 372)⟩, ⟨(PySem.PyData.keyHash P (.ofString "__init__")), (.str (.ofString "__init__") 381), (.ref 119)⟩, ⟨(PySem.PyData.keyHash P (.ofString "__static_attributes__")), (.str (.ofString "__static_attributes__") 383), (.ref 120)⟩, ⟨(PySem.PyData.keyHash P (.ofString "__dict__")), (.str (.ofString "__dict__") 385), (.ref 123)⟩, ⟨(PySem.PyData.keyHash P (.ofString "__weakref__")), (.str (.ofString "__weakref__") 387), (.ref 124)⟩, ⟨(PySem.PyData.keyHash P (.ofString "__doc__")), (.str (.ofString "__doc__") 388), .none⟩] 4), #[]⟩) ::
  (nat_lit 122, ⟨(.type "type"), none, (.cls ⟨(.ofString "LightValue"), [(.type "object")], [(.ref 122), (.type "object")], 121, (.ofString "LightValue"), true, [], [], false, none, false⟩), #[none, none, (some (.str (.ofString "LightValue") 362)), (some (.str (.ofString "LightValue") 370)), (some (.builtin "object.__new__")), (some (.bool true))]⟩) ::
  (nat_lit 132, ⟨(.type "code"), none, (.fields #[(.str (.ofString "is_number") 391), (.str (.ofString "is_number") 392), (.str (.ofString "/claim/cut.py") 393), (.int 55 0), (.int 1 0), (.int 0 0), (.int 0 0), (.int 3 0), (.ref 127), (.bool true), (.int 181 0), (.ref 128), .none, (.ref 129), (.ref 130), (.ref 131), (.int 395 0), (.int 55 0), (.str (.ofString "/claim/cut.py") 396)]), #[]⟩) ::
  (nat_lit 133, ⟨(.type "function"), none, (.func ⟨(.ofString "is_number"), (.ofString "is_number"), ⟨[], [⟨(.ofString "value"), none, ⟨55, 14, 55, 19⟩⟩], none, [], [], none, []⟩, (.stmts (bAt 18)), ⟨.function, [((.ofString "value"), .local), ((.ofString "isinstance"), .globalImplicit), ((.ofString "int"), .globalImplicit), ((.ofString "bool"), .globalImplicit)], false, false, []⟩, 3, [], .none, .none, .none, (.str (.ofString "lua.values") 204), none, (.ref 132), .none, 0⟩), #[]⟩) ::
  (nat_lit 139, ⟨(.type "code"), none, (.fields #[(.str (.ofString "type_of") 398), (.str (.ofString "type_of") 399), (.str (.ofString "/claim/cut.py") 400), (.int 57 0), (.int 1 0), (.int 0 0), (.int 0 0), (.int 3 0), (.ref 134), (.bool true), (.int 181 0), (.ref 135), .none, (.ref 136), (.ref 137), (.ref 138), (.int 402 0), (.int 57 0), (.str (.ofString "/claim/cut.py") 403)]), #[]⟩) ::
  (nat_lit 140, ⟨(.type "function"), none, (.func ⟨(.ofString "type_of"), (.ofString "type_of"), ⟨[], [⟨(.ofString "value"), none, ⟨57, 12, 57, 17⟩⟩], none, [], [], none, []⟩, (.stmts (bAt 19)), ⟨.function, [((.ofString "value"), .local), ((.ofString "T_NIL"), .globalImplicit), ((.ofString "isinstance"), .globalImplicit), ((.ofString "bool"), .globalImplicit), ((.ofString "T_BOOLEAN"), .globalImplicit), ((.ofString "int"), .globalImplicit), ((.ofString "T_NUMBER"), .globalImplicit), ((.ofString "bytes"), .globalImplicit), ((.ofString "T_STRING"), .globalImplicit), ((.ofString "LightValue"), .globalImplicit), ((.ofString "T_LIGHT"), .globalImplicit), ((.ofString "HeapObject"), .globalImplicit), ((.ofString "T_NONE"), .globalImplicit)], false, false, []⟩, 3, [], .none, .none, .none, (.str (.ofString "lua.values") 204), none, (.ref 139), .none, 0⟩), #[]⟩) ::
  (nat_lit 146, ⟨(.type "code"), none, (.fields #[(.str (.ofString "is_collectable") 405), (.str (.ofString "is_collectable") 406), (.str (.ofString "/claim/cut.py") 407), (.int 71 0), (.int 1 0), (.int 0 0), (.int 0 0), (.int 3 0), (.ref 141), (.bool true), (.int 181 0), (.ref 142), .none, (.ref 143), (.ref 144), (.ref 145), (.int 409 0), (.int 71 0), (.str (.ofString "/claim/cut.py") 410)]), #[]⟩) ::
  (nat_lit 147, ⟨(.type "function"), none, (.func ⟨(.ofString "is_collectable"), (.ofString "is_collectable"), ⟨[], [⟨(.ofString "value"), none, ⟨71, 19, 71, 24⟩⟩], none, [], [], none, []⟩, (.stmts (bAt 20)), ⟨.function, [((.ofString "value"), .local), ((.ofString "isinstance"), .globalImplicit), ((.ofString "HeapObject"), .globalImplicit)], false, false, []⟩, 3, [], .none, .none, .none, (.str (.ofString "lua.values") 204), none, (.ref 146), .none, 0⟩), #[]⟩) ::
  (nat_lit 153, ⟨(.type "code"), none, (.fields #[(.str (.ofString "raw_equal") 412), (.str (.ofString "raw_equal") 413), (.str (.ofString "/claim/cut.py") 414), (.int 73 0), (.int 2 0), (.int 0 0), (.int 0 0), (.int 3 0), (.ref 148), (.bool true), (.int 181 0), (.ref 149), .none, (.ref 150), (.ref 151), (.ref 152), (.int 418 0), (.int 73 0), (.str (.ofString "/claim/cut.py") 419)]), #[]⟩) ::
  (nat_lit 154, ⟨(.type "function"), none, (.func ⟨(.ofString "raw_equal"), (.ofString "raw_equal"), ⟨[], [⟨(.ofString "a"), none, ⟨73, 14, 73, 15⟩⟩, ⟨(.ofString "b"), none, ⟨73, 17, 73, 18⟩⟩], none, [], [], none, []⟩, (.stmts (bAt 21)), ⟨.function, [((.ofString "a"), .local), ((.ofString "b"), .local), ((.ofString "tag"), .local), ((.ofString "type_of"), .globalImplicit), ((.ofString "T_NIL"), .globalImplicit), ((.ofString "T_BOOLEAN"), .globalImplicit), ((.ofString "T_NUMBER"), .globalImplicit), ((.ofString "T_STRING"), .globalImplicit)], false, false, []⟩, 3, [], .none, .none, .none, (.str (.ofString "lua.values") 204), none, (.ref 153), .none, 0⟩), #[]⟩) ::
  (nat_lit 160, ⟨(.type "code"), none, (.fields #[(.str (.ofString "string_hash") 421), (.str (.ofString "string_hash") 422), (.str (.ofString "/claim/cut.py") 423), (.int 82 0), (.int 1 0), (.int 0 0), (.int 0 0), (.int 3 0), (.ref 155), (.bool true), (.int 181 0), (.ref 156), .none, (.ref 157), (.ref 158), (.ref 159), (.int 428 0), (.int 82 0), (.str (.ofString "/claim/cut.py") 429)]), #[]⟩) ::
  (nat_lit 161, ⟨(.type "function"), none, (.func ⟨(.ofString "string_hash"), (.ofString "string_hash"), ⟨[], [⟨(.ofString "text"), none, ⟨82, 16, 82, 20⟩⟩], none, [], [], none, []⟩, (.stmts (bAt 22)), ⟨.function, [((.ofString "text"), .local), ((.ofString "found"), .local), ((.ofString "at"), .local), ((.ofString "step"), .local), ((.ofString "len"), .globalImplicit), ((.ofString "HASH_MASK"), .globalImplicit)], false, false, []⟩, 3, [], .none, .none, .none, (.str (.ofString "lua.values") 204), none, (.ref 160), .none, 0⟩), #[]⟩) ::
  (nat_lit 167, ⟨(.type "code"), none, (.fields #[(.str (.ofString "log2") 431), (.str (.ofString "log2") 432), (.str (.ofString "/claim/cut.py") 433), (.int 89 0), (.int 1 0), (.int 0 0), (.int 0 0), (.int 3 0), (.ref 162), (.bool true), (.int 181 0), (.ref 163), .none, (.ref 164), (.ref 165), (.ref 166), (.int 436 0), (.int 89 0), (.str (.ofString "/claim/cut.py") 437)]), #[]⟩) ::
  (nat_lit 168, ⟨(.type "function"), none, (.func ⟨(.ofString "log2"), (.ofString "log2"), ⟨[], [⟨(.ofString "n"), none, ⟨89, 9, 89, 10⟩⟩], none, [], [], none, []⟩, (.stmts (bAt 23)), ⟨.function, [((.ofString "n"), .local), ((.ofString "found"), .local)], false, false, []⟩, 3, [], .none, .none, .none, (.str (.ofString "lua.values") 204), none, (.ref 167), .none, 0⟩), #[]⟩) ::
  (nat_lit 174, ⟨(.type "code"), none, (.fields #[(.str (.ofString "ceil_log2") 439), (.str (.ofString "ceil_log2") 440), (.str (.ofString "/claim/cut.py") 441), (.int 95 0), (.int 1 0), (.int 0 0), (.int 0 0), (.int 3 0), (.ref 169), (.bool true), (.int 181 0), (.ref 170), .none, (.ref 171), (.ref 172), (.ref 173), (.int 443 0), (.int 95 0), (.str (.ofString "/claim/cut.py") 444)]), #[]⟩) ::
  (nat_lit 175, ⟨(.type "function"), none, (.func ⟨(.ofString "ceil_log2"), (.ofString "ceil_log2"), ⟨[], [⟨(.ofString "n"), none, ⟨95, 14, 95, 15⟩⟩], none, [], [], none, []⟩, (.stmts (bAt 24)), ⟨.function, [((.ofString "n"), .local), ((.ofString "log2"), .globalImplicit)], false, false, []⟩, 3, [], .none, .none, .none, (.str (.ofString "lua.values") 204), none, (.ref 174), .none, 0⟩), #[]⟩) ::
  (nat_lit 188, ⟨(.type "code"), none, (.fields #[(.str (.ofString "__init__") 463), (.str (.ofString "UpVal.__init__") 464), (.str (.ofString "/claim/cut.py") 465), (.int 102 0), (.int 3 0), (.int 0 0), (.int 0 0), (.int 3 0), (.ref 183), (.bool true), (.int 181 0), (.ref 184), .none, (.ref 185), (.ref 186), (.ref 187), (.int 469 0), (.int 102 0), (.str (.ofString "/claim/cut.py") 470)]), #[]⟩) ::
  (nat_lit 189, ⟨(.type "function"), none, (.func ⟨(.ofString "__init__"), (.ofString "UpVal.__init__"), ⟨[], [⟨(.ofString "self"), none, ⟨102, 17, 102, 21⟩⟩, ⟨(.ofString "thread"), none, ⟨102, 23, 102, 29⟩⟩, ⟨(.ofString "index"), none, ⟨102, 31, 102, 36⟩⟩], none, [], [], none, []⟩, (.stmts (mAt 27 1)), ⟨.function, [((.ofString "self"), .local), ((.ofString "thread"), .local), ((.ofString "index"), .local), ((.ofString "HeapObject"), .globalImplicit), ((.ofString "SIZE_UPVAL"), .globalImplicit)], false, false, []⟩, 3, [], .none, .none, .none, (.str (.ofString "lua.upvals") 446), none, (.ref 188), .none, 0⟩), #[]⟩) ::
  (nat_lit 195, ⟨(.type "code"), none, (.fields #[(.str (.ofString "is_open") 472), (.str (.ofString "UpVal.is_open") 473), (.str (.ofString "/claim/cut.py") 474), (.int 108 0), (.int 1 0), (.int 0 0), (.int 0 0), (.int 3 0), (.ref 190), (.bool true), (.int 181 0), (.ref 191), .none, (.ref 192), (.ref 193), (.ref 194), (.int 476 0), (.int 108 0), (.str (.ofString "/claim/cut.py") 477)]), #[]⟩) ::
  (nat_lit 196, ⟨(.type "function"), none, (.func ⟨(.ofString "is_open"), (.ofString "UpVal.is_open"), ⟨[], [⟨(.ofString "self"), none, ⟨109, 16, 109, 20⟩⟩], none, [], [], none, []⟩, (.stmts (mAt 27 2)), ⟨.function, [((.ofString "self"), .local)], false, false, []⟩, 3, [], .none, .none, .none, (.str (.ofString "lua.upvals") 446), none, (.ref 195), .none, 0⟩), #[]⟩) ::
  (nat_lit 197, ⟨(.type "property"), none, (.fields #[(.ref 196), .none, .none, .none, (.str (.ofString "is_open") 479), (.bool false)]), #[]⟩) ::
  (nat_lit 203, ⟨(.type "code"), none, (.fields #[(.str (.ofString "get") 480), (.str (.ofString "UpVal.get") 481), (.str (.ofString "/claim/cut.py") 482), (.int 112 0), (.int 1 0), (.int 0 0), (.int 0 0), (.int 3 0), (.ref 198), (.bool true), (.int 181 0), (.ref 199), .none, (.ref 200), (.ref 201), (.ref 202), (.int 484 0), (.int 112 0), (.str (.ofString "/claim/cut.py") 485)]), #[]⟩) ::
  (nat_lit 204, ⟨(.type "function"), none, (.func ⟨(.ofString "get"), (.ofString "UpVal.get"), ⟨[], [⟨(.ofString "self"), none, ⟨112, 12, 112, 16⟩⟩], none, [], [], none, []⟩, (.stmts (mAt 27 3)), ⟨.function, [((.ofString "self"), .local)], false, false, []⟩, 3, [], .none, .none, .none, (.str (.ofString "lua.upvals") 446), none, (.ref 203), .none, 0⟩), #[]⟩) ::
  (nat_lit 210, ⟨(.type "code"), none, (.fields #[(.str (.ofString "set") 487), (.str (.ofString "UpVal.set") 488), (.str (.ofString "/claim/cut.py") 489), (.int 117 0), (.int 2 0), (.int 0 0), (.int 0 0), (.int 3 0), (.ref 205), (.bool true), (.int 181 0), (.ref 206), .none, (.ref 207), (.ref 208), (.ref 209), (.int 492 0), (.int 117 0), (.str (.ofString "/claim/cut.py") 493)]), #[]⟩) ::
  (nat_lit 211, ⟨(.type "function"), none, (.func ⟨(.ofString "set"), (.ofString "UpVal.set"), ⟨[], [⟨(.ofString "self"), none, ⟨117, 12, 117, 16⟩⟩, ⟨(.ofString "value"), none, ⟨117, 18, 117, 23⟩⟩], none, [], [], none, []⟩, (.stmts (mAt 27 4)), ⟨.function, [((.ofString "self"), .local), ((.ofString "value"), .local)], false, false, []⟩, 3, [], .none, .none, .none, (.str (.ofString "lua.upvals") 446), none, (.ref 210), .none, 0⟩), #[]⟩) ::
  (nat_lit 217, ⟨(.type "code"), none, (.fields #[(.str (.ofString "close") 495), (.str (.ofString "UpVal.close") 496), (.str (.ofString "/claim/cut.py") 497), (.int 123 0), (.int 1 0), (.int 0 0), (.int 0 0), (.int 3 0), (.ref 212), (.bool true), (.int 181 0), (.ref 213), .none, (.ref 214), (.ref 215), (.ref 216), (.int 499 0), (.int 123 0), (.str (.ofString "/claim/cut.py") 500)]), #[]⟩) ::
  (nat_lit 218, ⟨(.type "function"), none, (.func ⟨(.ofString "close"), (.ofString "UpVal.close"), ⟨[], [⟨(.ofString "self"), none, ⟨123, 14, 123, 18⟩⟩], none, [], [], none, []⟩, (.stmts (mAt 27 5)), ⟨.function, [((.ofString "self"), .local)], false, false, []⟩, 3, [], .none, .none, .none, (.str (.ofString "lua.upvals") 446), none, (.ref 217), .none, 0⟩), #[]⟩) ::
  (nat_lit 220, ⟨(.type "dict"), none, (.dict #[⟨(PySem.PyData.keyHash P (.ofString "__module__")), (.str (.ofString "__module__") 457), (.str (.ofString "lua.upvals") 446)⟩, ⟨(PySem.PyData.keyHash P (.ofString "__firstlineno__")), (.str (.ofString "__firstlineno__") 461), (.int 99 460)⟩, ⟨(PySem.PyData.keyHash P (.ofString "kind")), (.str (.ofString "kind") 462), (.int 10 223)⟩, ⟨(PySem.PyData.keyHash P (.ofString "__init__")), (.str (.ofString "__init__") 471), (.ref 189)⟩, ⟨(PySem.PyData.keyHash P (.ofString "is_open")), (.str (.ofString "is_open") 479), (.ref 197)⟩, ⟨(PySem.PyData.keyHash P (.ofString "get")), (.str (.ofString "get") 486), (.ref 204)⟩, ⟨(PySem.PyData.keyHash P (.ofString "set")), (.str (.ofString "set") 494), (.ref 211)⟩, ⟨(PySem.PyData.keyHash P (.ofString "close")), (.str (.ofString "close") 501), (.ref 218)⟩, ⟨(PySem.PyData.keyHash P (.ofString "__static_attributes__")), (.str (.ofString "__static_attributes__") 505), (.ref 219)⟩, ⟨(PySem.PyData.keyHash P (.ofString "__doc__")), (.str (.ofString "__doc__") 506), .none⟩] 2), #[]⟩) ::
  (nat_lit 221, ⟨(.type "type"), none, (.cls ⟨(.ofString "UpVal"), [(.ref 101)], [(.ref 221), (.ref 101), (.type "object")], 220, (.ofString "UpVal"), true, [], [], false, none, false⟩), #[(some (.ref 176)), none, (some (.str (.ofString "UpVal") 450)), (some (.str (.ofString "UpVal") 458)), (some (.builtin "object.__new__")), (some (.bool true))]⟩) ::
  (nat_lit 229, ⟨(.type "code"), none, (.fields #[(.str (.ofString "spot_of") 509), (.str (.ofString "spot_of") 510), (.str (.ofString "/claim/cut.py") 511), (.int 128 0), (.int 2 0), (.int 0 0), (.int 0 0), (.int 3 0), (.ref 224), (.bool true), (.int 181 0), (.ref 225), .none, (.ref 226), (.ref 227), (.ref 228), (.int 515 0), (.int 128 0), (.str (.ofString "/claim/cut.py") 516)]), #[]⟩) ::
  (nat_lit 230, ⟨(.type "function"), none, (.func ⟨(.ofString "spot_of"), (.ofString "spot_of"), ⟨[], [⟨(.ofString "owner"), none, ⟨128, 12, 128, 17⟩⟩, ⟨(.ofString "index"), none, ⟨128, 19, 128, 24⟩⟩], none, [], [], none, []⟩, (.stmts (bAt 28)), ⟨.function, [((.ofString "owner"), .local), ((.ofString "index"), .local), ((.ofString "at"), .local), ((.ofString "len"), .globalImplicit)], false, false, []⟩, 3, [], .none, .none, .none, (.str (.ofString "lua.upvals") 446), none, (.ref 229), .none, 0⟩), #[]⟩) ::
  (nat_lit 236, ⟨(.type "code"), none, (.fields #[(.str (.ofString "open_at") 518), (.str (.ofString "open_at") 519), (.str (.ofString "/claim/cut.py") 520), (.int 133 0), (.int 2 0), (.int 0 0), (.int 0 0), (.int 3 0), (.ref 231), (.bool true), (.int 181 0), (.ref 232), .none, (.ref 233), (.ref 234), (.ref 235), (.int 524 0), (.int 133 0), (.str (.ofString "/claim/cut.py") 525)]), #[]⟩) ::
  (nat_lit 237, ⟨(.type "function"), none, (.func ⟨(.ofString "open_at"), (.ofString "open_at"), ⟨[], [⟨(.ofString "owner"), none, ⟨133, 12, 133, 17⟩⟩, ⟨(.ofString "index"), none, ⟨133, 19, 133, 24⟩⟩], none, [], [], none, []⟩, (.stmts (bAt 29)), ⟨.function, [((.ofString "owner"), .local), ((.ofString "index"), .local), ((.ofString "at"), .local), ((.ofString "spot_of"), .globalImplicit), ((.ofString "len"), .globalImplicit)], false, false, []⟩, 3, [], .none, .none, .none, (.str (.ofString "lua.upvals") 446), none, (.ref 236), .none, 0⟩), #[]⟩) ::
  (nat_lit 243, ⟨(.type "code"), none, (.fields #[(.str (.ofString "put_open") 527), (.str (.ofString "put_open") 528), (.str (.ofString "/claim/cut.py") 529), (.int 138 0), (.int 2 0), (.int 0 0), (.int 0 0), (.int 3 0), (.ref 238), (.bool true), (.int 181 0), (.ref 239), .none, (.ref 240), (.ref 241), (.ref 242), (.int 532 0), (.int 138 0), (.str (.ofString "/claim/cut.py") 533)]), #[]⟩) ::
  (nat_lit 244, ⟨(.type "function"), none, (.func ⟨(.ofString "put_open"), (.ofString "put_open"), ⟨[], [⟨(.ofString "owner"), none, ⟨138, 13, 138, 18⟩⟩, ⟨(.ofString "upval"), none, ⟨138, 20, 138, 25⟩⟩], none, [], [], none, []⟩, (.stmts (bAt 30)), ⟨.function, [((.ofString "owner"), .local), ((.ofString "upval"), .local), ((.ofString "spot_of"), .globalImplicit)], false, false, []⟩, 3, [], .none, .none, .none, (.str (.ofString "lua.upvals") 446), none, (.ref 243), .none, 0⟩), #[]⟩) ::
  (nat_lit 250, ⟨(.type "code"), none, (.fields #[(.str (.ofString "take_closed") 535), (.str (.ofString "take_closed") 536), (.str (.ofString "/claim/cut.py") 537), (.int 140 0), (.int 2 0), (.int 0 0), (.int 0 0), (.int 3 0), (.ref 245), (.bool true), (.int 181 0), (.ref 246), .none, (.ref 247), (.ref 248), (.ref 249), (.int 542 0), (.int 140 0), (.str (.ofString "/claim/cut.py") 543)]), #[]⟩) ::
  (nat_lit 251, ⟨(.type "function"), none, (.func ⟨(.ofString "take_closed"), (.ofString "take_closed"), ⟨[], [⟨(.ofString "owner"), none, ⟨140, 16, 140, 21⟩⟩, ⟨(.ofString "level"), none, ⟨140, 23, 140, 28⟩⟩], none, [], [], none, []⟩, (.stmts (bAt 31)), ⟨.function, [((.ofString "owner"), .local), ((.ofString "level"), .local), ((.ofString "found"), .local), ((.ofString "upval"), .local), ((.ofString "len"), .globalImplicit)], false, false, []⟩, 3, [], .none, .none, .none, (.str (.ofString "lua.upvals") 446), none, (.ref 250), .none, 0⟩), #[]⟩) ::
  (nat_lit 264, ⟨(.type "code"), none, (.fields #[(.str (.ofString "__init__") 568), (.str (.ofString "CallInfo.__init__") 569), (.str (.ofString "/claim/cut.py") 570), (.int 154 0), (.int 5 0), (.int 0 0), (.int 0 0), (.int 3 0), (.ref 259), (.bool true), (.int 181 0), (.ref 260), .none, (.ref 261), (.ref 262), (.ref 263), (.int 576 0), (.int 154 0), (.str (.ofString "/claim/cut.py") 577)]), #[]⟩) ::
  (nat_lit 265, ⟨(.type "function"), none, (.func ⟨(.ofString "__init__"), (.ofString "CallInfo.__init__"), ⟨[], [⟨(.ofString "self"), none, ⟨154, 17, 154, 21⟩⟩, ⟨(.ofString "func"), none, ⟨154, 23, 154, 27⟩⟩, ⟨(.ofString "base"), none, ⟨154, 29, 154, 33⟩⟩, ⟨(.ofString "top"), none, ⟨154, 35, 154, 38⟩⟩, ⟨(.ofString "wanted"), none, ⟨154, 40, 154, 46⟩⟩], none, [], [], none, []⟩, (.stmts (mAt 37 0)), ⟨.function, [((.ofString "self"), .local), ((.ofString "func"), .local), ((.ofString "base"), .local), ((.ofString "top"), .local), ((.ofString "wanted"), .local)], false, false, []⟩, 3, [], .none, .none, .none, (.str (.ofString "lua.objects") 545), none, (.ref 264), .none, 0⟩), #[]⟩) ::
  (nat_lit 281, ⟨(.type "dict"), none, (.dict #[⟨(PySem.PyData.keyHash P (.ofString "__module__")), (.str (.ofString "__module__") 563), (.str (.ofString "lua.objects") 545)⟩, ⟨(PySem.PyData.keyHash P (.ofString "__firstlineno__")), (.str (.ofString "__firstlineno__") 567), (.int 152 566)⟩, ⟨(PySem.PyData.keyHash P (.ofString "__init__")), (.str (.ofString "__init__") 578), (.ref 265)⟩, ⟨(PySem.PyData.keyHash P (.ofString "is_lua")), (.str (.ofString "is_lua") 586), (.ref 272)⟩, ⟨(PySem.PyData.keyHash P (.ofString "copied")), (.str (.ofString "copied") 593), (.ref 279)⟩, ⟨(PySem.PyData.keyHash P (.ofString "__static_attributes__")), (.str (.ofString "__static_attributes__") 601), (.ref 280)⟩, ⟨(PySem.PyData.keyHash P (.ofString "__dict__")), (.str (.ofString "__dict__") 603), (.ref 283)⟩, ⟨(PySem.PyData.keyHash P (.ofString "__weakref__")), (.str (.ofString "__weakref__") 605), (.ref 284)⟩, ⟨(PySem.PyData.keyHash P (.ofString "__doc__")), (.str (.ofString "__doc__") 606), .none⟩] 4), #[]⟩) ::
  (nat_lit 282, ⟨(.type "type"), none, (.cls ⟨(.ofString "CallInfo"), [(.type "object")], [(.ref 282), (.type "object")], 281, (.ofString "CallInfo"), true, [], [], false, none, false⟩), #[none, none, (some (.str (.ofString "CallInfo") 556)), (some (.str (.ofString "CallInfo") 564)), (some (.builtin "object.__new__")), (some (.bool true))]⟩) ::
  (nat_lit 299, ⟨(.type "code"), none, (.fields #[(.str (.ofString "__init__") 622), (.str (.ofString "Thread.__init__") 623), (.str (.ofString "/claim/cut.py") 624), (.int 171 0), (.int 2 0), (.int 0 0), (.int 0 0), (.int 3 0), (.ref 294), (.bool true), (.int 181 0), (.ref 295), .none, (.ref 296), (.ref 297), (.ref 298), (.int 627 0), (.int 171 0), (.str (.ofString "/claim/cut.py") 628)]), #[]⟩) ::
  (nat_lit 300, ⟨(.type "function"), none, (.func ⟨(.ofString "__init__"), (.ofString "Thread.__init__"), ⟨[], [⟨(.ofString "self"), none, ⟨171, 17, 171, 21⟩⟩, ⟨(.ofString "glob"), none, ⟨171, 23, 171, 27⟩⟩], none, [], [], none, []⟩, (.stmts (mAt 38 1)), ⟨.function, [((.ofString "self"), .local), ((.ofString "glob"), .local), ((.ofString "HeapObject"), .globalImplicit), ((.ofString "SIZE_THREAD"), .globalImplicit), ((.ofString "MIN_STACK"), .globalImplicit), ((.ofString "THREAD_OK"), .globalImplicit)], false, false, []⟩, 3, [], .none, .none, .none, (.str (.ofString "lua.objects") 545), none, (.ref 299), .none, 0⟩), #[]⟩) ::
  (nat_lit 306, ⟨(.type "code"), none, (.fields #[(.str (.ofString "frame") 630), (.str (.ofString "Thread.frame") 631), (.str (.ofString "/claim/cut.py") 632), (.int 190 0), (.int 1 0), (.int 0 0), (.int 0 0), (.int 3 0), (.ref 301), (.bool true), (.int 181 0), (.ref 302), .none, (.ref 303), (.ref 304), (.ref 305), (.int 634 0), (.int 190 0), (.str (.ofString "/claim/cut.py") 635)]), #[]⟩) ::
  (nat_lit 307, ⟨(.type "function"), none, (.func ⟨(.ofString "frame"), (.ofString "Thread.frame"), ⟨[], [⟨(.ofString "self"), none, ⟨191, 14, 191, 18⟩⟩], none, [], [], none, []⟩, (.stmts (mAt 38 2)), ⟨.function, [((.ofString "self"), .local), ((.ofString "len"), .globalImplicit)], false, false, []⟩, 3, [], .none, .none, .none, (.str (.ofString "lua.objects") 545), none, (.ref 306), .none, 0⟩), #[]⟩) ::
  (nat_lit 308, ⟨(.type "property"), none, (.fields #[(.ref 307), .none, .none, .none, (.str (.ofString "frame") 637), (.bool false)]), #[]⟩) ::
  (nat_lit 316, ⟨(.type "property"), none, (.fields #[(.ref 315), .none, .none, .none, (.str (.ofString "frame_count") 645), (.bool false)]), #[]⟩) ::
  (nat_lit 322, ⟨(.type "code"), none, (.fields #[(.str (.ofString "ground") 646), (.str (.ofString "Thread.ground") 647), (.str (.ofString "/claim/cut.py") 648), (.int 198 0), (.int 1 0), (.int 0 0), (.int 0 0), (.int 3 0), (.ref 317), (.bool true), (.int 181 0), (.ref 318), .none, (.ref 319), (.ref 320), (.ref 321), (.int 650 0), (.int 198 0), (.str (.ofString "/claim/cut.py") 651)]), #[]⟩) ::
  (nat_lit 323, ⟨(.type "function"), none, (.func ⟨(.ofString "ground"), (.ofString "Thread.ground"), ⟨[], [⟨(.ofString "self"), none, ⟨198, 15, 198, 19⟩⟩], none, [], [], none, []⟩, (.stmts (mAt 38 4)), ⟨.function, [((.ofString "self"), .local), ((.ofString "MIN_STACK"), .globalImplicit), ((.ofString "MULTIPLE"), .globalImplicit)], false, false, []⟩, 3, [], .none, .none, .none, (.str (.ofString "lua.objects") 545), none, (.ref 322), .none, 0⟩), #[]⟩) ::
  (nat_lit 329, ⟨(.type "code"), none, (.fields #[(.str (.ofString "grow") 653), (.str (.ofString "Thread.grow") 654), (.str (.ofString "/claim/cut.py") 655), (.int 202 0), (.int 2 0), (.int 0 0), (.int 0 0), (.int 3 0), (.ref 324), (.bool true), (.int 181 0), (.ref 325), .none, (.ref 326), (.ref 327), (.ref 328), (.int 659 0), (.int 202 0), (.str (.ofString "/claim/cut.py") 660)]), #[]⟩) ::
  (nat_lit 330, ⟨(.type "function"), none, (.func ⟨(.ofString "grow"), (.ofString "Thread.grow"), ⟨[], [⟨(.ofString "self"), none, ⟨202, 13, 202, 17⟩⟩, ⟨(.ofString "size"), none, ⟨202, 19, 202, 23⟩⟩], none, [], [], none, []⟩, (.stmts (mAt 38 5)), ⟨.function, [((.ofString "self"), .local), ((.ofString "size"), .local), ((.ofString "lacking"), .local), ((.ofString "len"), .globalImplicit)], false, false, []⟩, 3, [], .none, .none, .none, (.str (.ofString "lua.objects") 545), none, (.ref 329), .none, 0⟩), #[]⟩) ::
  (nat_lit 336, ⟨(.type "code"), none, (.fields #[(.str (.ofString "push") 662), (.str (.ofString "Thread.push") 663), (.str (.ofString "/claim/cut.py") 664), (.int 207 0), (.int 2 0), (.int 0 0), (.int 0 0), (.int 3 0), (.ref 331), (.bool true), (.int 181 0), (.ref 332), .none, (.ref 333), (.ref 334), (.ref 335), (.int 667 0), (.int 207 0), (.str (.ofString "/claim/cut.py") 668)]), #[]⟩) ::
  (nat_lit 337, ⟨(.type "function"), none, (.func ⟨(.ofString "push"), (.ofString "Thread.push"), ⟨[], [⟨(.ofString "self"), none, ⟨207, 13, 207, 17⟩⟩, ⟨(.ofString "value"), none, ⟨207, 19, 207, 24⟩⟩], none, [], [], none, []⟩, (.stmts (mAt 38 6)), ⟨.function, [((.ofString "self"), .local), ((.ofString "value"), .local), ((.ofString "len"), .globalImplicit)], false, false, []⟩, 3, [], .none, .none, .none, (.str (.ofString "lua.objects") 545), none, (.ref 336), .none, 0⟩), #[]⟩) ::
  (nat_lit 343, ⟨(.type "code"), none, (.fields #[(.str (.ofString "pop") 670), (.str (.ofString "Thread.pop") 671), (.str (.ofString "/claim/cut.py") 672), (.int 213 0), (.int 1 0), (.int 0 0), (.int 0 0), (.int 3 0), (.ref 338), (.bool true), (.int 181 0), (.ref 339), .none, (.ref 340), (.ref 341), (.ref 342), (.int 675 0), (.int 213 0), (.str (.ofString "/claim/cut.py") 676)]), #[]⟩) ::
  (nat_lit 344, ⟨(.type "function"), none, (.func ⟨(.ofString "pop"), (.ofString "Thread.pop"), ⟨[], [⟨(.ofString "self"), none, ⟨213, 12, 213, 16⟩⟩], none, [], [], none, []⟩, (.stmts (mAt 38 7)), ⟨.function, [((.ofString "self"), .local), ((.ofString "value"), .local)], false, false, []⟩, 3, [], .none, .none, .none, (.str (.ofString "lua.objects") 545), none, (.ref 343), .none, 0⟩), #[]⟩) ::
  (nat_lit 350, ⟨(.type "code"), none, (.fields #[(.str (.ofString "set_top") 678), (.str (.ofString "Thread.set_top") 679), (.str (.ofString "/claim/cut.py") 680), (.int 219 0), (.int 2 0), (.int 0 0), (.int 0 0), (.int 3 0), (.ref 345), (.bool true), (.int 181 0), (.ref 346), .none, (.ref 347), (.ref 348), (.ref 349), (.int 686 0), (.int 219 0), (.str (.ofString "/claim/cut.py") 687)]), #[]⟩) ::
  (nat_lit 351, ⟨(.type "function"), none, (.func ⟨(.ofString "set_top"), (.ofString "Thread.set_top"), ⟨[], [⟨(.ofString "self"), none, ⟨219, 16, 219, 20⟩⟩, ⟨(.ofString "top"), none, ⟨219, 22, 219, 25⟩⟩], none, [], [], none, []⟩, (.stmts (mAt 38 8)), ⟨.function, [((.ofString "self"), .local), ((.ofString "top"), .local), ((.ofString "first"), .local), ((.ofString "last"), .local), ((.ofString "at"), .local), ((.ofString "min"), .globalImplicit), ((.ofString "max"), .globalImplicit), ((.ofString "range"), .globalImplicit), ((.ofString "len"), .globalImplicit)], false, false, []⟩, 3, [], .none, .none, .none, (.str (.ofString "lua.objects") 545), none, (.ref 350), .none, 0⟩), #[]⟩) ::
  (nat_lit 357, ⟨(.type "code"), none, (.fields #[(.str (.ofString "values") 689), (.str (.ofString "Thread.values") 690), (.str (.ofString "/claim/cut.py") 691), (.int 226 0), (.int 3 0), (.int 0 0), (.int 0 0), (.int 3 0), (.ref 352), (.bool true), (.int 181 0), (.ref 353), .none, (.ref 354), (.ref 355), (.ref 356), (.int 695 0), (.int 226 0), (.str (.ofString "/claim/cut.py") 696)]), #[]⟩) ::
  (nat_lit 358, ⟨(.type "function"), none, (.func ⟨(.ofString "values"), (.ofString "Thread.values"), ⟨[], [⟨(.ofString "self"), none, ⟨226, 15, 226, 19⟩⟩, ⟨(.ofString "first"), none, ⟨226, 21, 226, 26⟩⟩, ⟨(.ofString "last"), none, ⟨226, 28, 226, 32⟩⟩], none, [], [], none, []⟩, (.stmts (mAt 38 9)), ⟨.function, [((.ofString "self"), .local), ((.ofString "first"), .local), ((.ofString "last"), .local)], false, false, []⟩, 3, [], .none, .none, .none, (.str (.ofString "lua.objects") 545), none, (.ref 357), .none, 0⟩), #[]⟩) ::
  (nat_lit 364, ⟨(.type "code"), none, (.fields #[(.str (.ofString "insert") 698), (.str (.ofString "Thread.insert") 699), (.str (.ofString "/claim/cut.py") 700), (.int 229 0), (.int 3 0), (.int 0 0), (.int 0 0), (.int 3 0), (.ref 359), (.bool true), (.int 181 0), (.ref 360), .none, (.ref 361), (.ref 362), (.ref 363), (.int 705 0), (.int 229 0), (.str (.ofString "/claim/cut.py") 706)]), #[]⟩) ::
  (nat_lit 365, ⟨(.type "function"), none, (.func ⟨(.ofString "insert"), (.ofString "Thread.insert"), ⟨[], [⟨(.ofString "self"), none, ⟨229, 15, 229, 19⟩⟩, ⟨(.ofString "index"), none, ⟨229, 21, 229, 26⟩⟩, ⟨(.ofString "value"), none, ⟨229, 28, 229, 33⟩⟩], none, [], [], none, []⟩, (.stmts (mAt 38 10)), ⟨.function, [((.ofString "self"), .local), ((.ofString "index"), .local), ((.ofString "value"), .local), ((.ofString "at"), .local), ((.ofString "range"), .globalImplicit)], false, false, []⟩, 3, [], .none, .none, .none, (.str (.ofString "lua.objects") 545), none, (.ref 364), .none, 0⟩), #[]⟩) ::
  (nat_lit 378, ⟨(.type "code"), none, (.fields #[(.str (.ofString "push_frame") 716), (.str (.ofString "Thread.push_frame") 717), (.str (.ofString "/claim/cut.py") 718), (.int 239 0), (.int 5 0), (.int 0 0), (.int 0 0), (.int 3 0), (.ref 373), (.bool true), (.int 181 0), (.ref 374), .none, (.ref 375), (.ref 376), (.ref 377), (.int 725 0), (.int 239 0), (.str (.ofString "/claim/cut.py") 726)]), #[]⟩) ::
  (nat_lit 379, ⟨(.type "function"), none, (.func ⟨(.ofString "push_frame"), (.ofString "Thread.push_frame"), ⟨[], [⟨(.ofString "self"), none, ⟨239, 19, 239, 23⟩⟩, ⟨(.ofString "func"), none, ⟨239, 25, 239, 29⟩⟩, ⟨(.ofString "base"), none, ⟨239, 31, 239, 35⟩⟩, ⟨(.ofString "top"), none, ⟨239, 37, 239, 40⟩⟩, ⟨(.ofString "wanted"), none, ⟨239, 42, 239, 48⟩⟩], none, [], [], none, []⟩, (.stmts (mAt 38 12)), ⟨.function, [((.ofString "self"), .local), ((.ofString "func"), .local), ((.ofString "base"), .local), ((.ofString "top"), .local), ((.ofString "wanted"), .local), ((.ofString "frame"), .local), ((.ofString "CallInfo"), .globalImplicit)], false, false, []⟩, 3, [], .none, .none, .none, (.str (.ofString "lua.objects") 545), none, (.ref 378), .none, 0⟩), #[]⟩) ::
  (nat_lit 402, ⟨(.type "dict"), none, (.dict #[⟨(PySem.PyData.keyHash P (.ofString "__module__")), (.str (.ofString "__module__") 616), (.str (.ofString "lua.objects") 545)⟩, ⟨(PySem.PyData.keyHash P (.ofString "__firstlineno__")), (.str (.ofString "__firstlineno__") 620), (.int 168 619)⟩, ⟨(PySem.PyData.keyHash P (.ofString "kind")), (.str (.ofString "kind") 621), (.int 8 221)⟩, ⟨(PySem.PyData.keyHash P (.ofString "__init__")), (.str (.ofString "__init__") 629), (.ref 300)⟩, ⟨(PySem.PyData.keyHash P (.ofString "frame")), (.str (.ofString "frame") 637), (.ref 308)⟩, ⟨(PySem.PyData.keyHash P (.ofString "frame_count")), (.str (.ofString "frame_count") 645), (.ref 316)⟩, ⟨(PySem.PyData.keyHash P (.ofString "ground")), (.str (.ofString "ground") 652), (.ref 323)⟩, ⟨(PySem.PyData.keyHash P (.ofString "grow")), (.str (.ofString "grow") 661), (.ref 330)⟩, ⟨(PySem.PyData.keyHash P (.ofString "push")), (.str (.ofString "push") 669), (.ref 337)⟩, ⟨(PySem.PyData.keyHash P (.ofString "pop")), (.str (.ofString "pop") 677), (.ref 344)⟩, ⟨(PySem.PyData.keyHash P (.ofString "set_top")), (.str (.ofString "set_top") 688), (.ref 351)⟩, ⟨(PySem.PyData.keyHash P (.ofString "values")), (.str (.ofString "values") 697), (.ref 358)⟩, ⟨(PySem.PyData.keyHash P (.ofString "insert")), (.str (.ofString "insert") 707), (.ref 365)⟩, ⟨(PySem.PyData.keyHash P (.ofString "remove")), (.str (.ofString "remove") 715), (.ref 372)⟩, ⟨(PySem.PyData.keyHash P (.ofString "push_frame")), (.str (.ofString "push_frame") 727), (.ref 379)⟩, ⟨(PySem.PyData.keyHash P (.ofString "pop_frame")), (.str (.ofString "pop_frame") 734), (.ref 386)⟩, ⟨(PySem.PyData.keyHash P (.ofString "function_at")), (.str (.ofString "function_at") 742), (.ref 393)⟩, ⟨(PySem.PyData.keyHash P (.ofString "shrink")), (.str (.ofString "shrink") 749), (.ref 400)⟩, ⟨(PySem.PyData.keyHash P (.ofString "__static_attributes__")), (.str (.ofString "__static_attributes__") 766), (.ref 401)⟩, ⟨(PySem.PyData.keyHash P (.ofString "__doc__")), (.str (.ofString "__doc__") 767), .none⟩] 2), #[]⟩) ::
  (nat_lit 403, ⟨(.type "type"), none, (.cls ⟨(.ofString "Thread"), [(.ref 101)], [(.ref 403), (.ref 101), (.type "object")], 402, (.ofString "Thread"), true, [], [], false, none, false⟩), #[(some (.ref 287)), none, (some (.str (.ofString "Thread") 609)), (some (.str (.ofString "Thread") 617)), (some (.builtin "object.__new__")), (some (.bool true))]⟩) ::
  (nat_lit 418, ⟨(.type "code"), none, (.fields #[(.str (.ofString "__init__") 782), (.str (.ofString "Global.__init__") 783), (.str (.ofString "/claim/cut.py") 784), (.int 255 0), (.int 2 0), (.int 0 0), (.int 0 0), (.int 3 0), (.ref 413), (.bool true), (.int 181 0), (.ref 414), .none, (.ref 415), (.ref 416), (.ref 417), (.int 787 0), (.int 255 0), (.str (.ofString "/claim/cut.py") 788)]), #[]⟩) ::
  (nat_lit 419, ⟨(.type "function"), none, (.func ⟨(.ofString "__init__"), (.ofString "Global.__init__"), ⟨[], [⟨(.ofString "self"), none, ⟨255, 17, 255, 21⟩⟩, ⟨(.ofString "limits"), none, ⟨255, 23, 255, 29⟩⟩], none, [], [], none, []⟩, (.stmts (mAt 39 0)), ⟨.function, [((.ofString "self"), .local), ((.ofString "limits"), .local)], false, false, []⟩, 3, [], .none, .none, .none, (.str (.ofString "lua.objects") 545), none, (.ref 418), .none, 0⟩), #[]⟩) ::
  (nat_lit 428, ⟨(.type "dict"), none, (.dict #[⟨(PySem.PyData.keyHash P (.ofString "__module__")), (.str (.ofString "__module__") 777), (.str (.ofString "lua.objects") 545)⟩, ⟨(PySem.PyData.keyHash P (.ofString "__firstlineno__")), (.str (.ofString "__firstlineno__") 781), (.int 253 780)⟩, ⟨(PySem.PyData.keyHash P (.ofString "__init__")), (.str (.ofString "__init__") 789), (.ref 419)⟩, ⟨(PySem.PyData.keyHash P (.ofString "next_number")), (.str (.ofString "next_number") 796), (.ref 426)⟩, ⟨(PySem.PyData.keyHash P (.ofString "__static_attributes__")), (.str (.ofString "__static_attributes__") 807), (.ref 427)⟩, ⟨(PySem.PyData.keyHash P (.ofString "__dict__")), (.str (.ofString "__dict__") 809), (.ref 430)⟩, ⟨(PySem.PyData.keyHash P (.ofString "__weakref__")), (.str (.ofString "__weakref__") 811), (.ref 431)⟩, ⟨(PySem.PyData.keyHash P (.ofString "__doc__")), (.str (.ofString "__doc__") 812), .none⟩] 4), #[]⟩) ::
  (nat_lit 429, ⟨(.type "type"), none, (.cls ⟨(.ofString "Global"), [(.type "object")], [(.ref 429), (.type "object")], 428, (.ofString "Global"), true, [], [], false, none, false⟩), #[none, none, (some (.str (.ofString "Global") 770)), (some (.str (.ofString "Global") 778)), (some (.builtin "object.__new__")), (some (.bool true))]⟩) ::
  (nat_lit 439, ⟨(.type "code"), none, (.fields #[(.str (.ofString "find_upval") 815), (.str (.ofString "find_upval") 816), (.str (.ofString "/claim/cut.py") 817), (.int 269 0), (.int 2 0), (.int 0 0), (.int 0 0), (.int 3 0), (.ref 434), (.bool true), (.int 181 0), (.ref 435), .none, (.ref 436), (.ref 437), (.ref 438), (.int 821 0), (.int 269 0), (.str (.ofString "/claim/cut.py") 822)]), #[]⟩) ::
  (nat_lit 440, ⟨(.type "function"), none, (.func ⟨(.ofString "find_upval"), (.ofString "find_upval"), ⟨[], [⟨(.ofString "thread"), none, ⟨269, 15, 269, 21⟩⟩, ⟨(.ofString "index"), none, ⟨269, 23, 269, 28⟩⟩], none, [], [], none, []⟩, (.stmts (bAt 40)), ⟨.function, [((.ofString "thread"), .local), ((.ofString "index"), .local), ((.ofString "found"), .local), ((.ofString "open_at"), .globalImplicit), ((.ofString "put_open"), .globalImplicit)], false, false, []⟩, 3, [], .none, .none, .none, (.str (.ofString "lua.objects") 545), none, (.ref 439), .none, 0⟩), #[]⟩) ::
  (nat_lit 446, ⟨(.type "code"), none, (.fields #[(.str (.ofString "close_upvals") 824), (.str (.ofString "close_upvals") 825), (.str (.ofString "/claim/cut.py") 826), (.int 277 0), (.int 2 0), (.int 0 0), (.int 0 0), (.int 3 0), (.ref 441), (.bool true), (.int 181 0), (.ref 442), .none, (.ref 443), (.ref 444), (.ref 445), (.int 830 0), (.int 277 0), (.str (.ofString "/claim/cut.py") 831)]), #[]⟩) ::
  (nat_lit 447, ⟨(.type "function"), none, (.func ⟨(.ofString "close_upvals"), (.ofString "close_upvals"), ⟨[], [⟨(.ofString "thread"), none, ⟨277, 17, 277, 23⟩⟩, ⟨(.ofString "level"), none, ⟨277, 25, 277, 30⟩⟩], none, [], [], none, []⟩, (.stmts (bAt 41)), ⟨.function, [((.ofString "thread"), .local), ((.ofString "level"), .local), ((.ofString "upval"), .local), ((.ofString "take_closed"), .globalImplicit)], false, false, []⟩, 3, [], .none, .none, .none, (.str (.ofString "lua.objects") 545), none, (.ref 446), .none, 0⟩), #[]⟩) ::
  (nat_lit 453, ⟨(.type "code"), none, (.fields #[(.str (.ofString "grounded") 835), (.str (.ofString "grounded") 836), (.str (.ofString "/claim/cut.py") 837), (.int 281 0), (.int 1 0), (.int 0 0), (.int 0 0), (.int 3 0), (.ref 448), (.bool true), (.int 181 0), (.ref 449), .none, (.ref 450), (.ref 451), (.ref 452), (.int 839 0), (.int 281 0), (.str (.ofString "/claim/cut.py") 840)]), #[]⟩) ::
  (nat_lit 454, ⟨(.type "function"), none, (.func ⟨(.ofString "grounded"), (.ofString "grounded"), ⟨[], [⟨(.ofString "thread"), none, ⟨281, 13, 281, 19⟩⟩], none, [], [], none, []⟩, (.stmts (bAt 43)), ⟨.function, [((.ofString "thread"), .local), ((.ofString "close_upvals"), .globalImplicit), ((.ofString "unwound"), .globalImplicit), ((.ofString "min"), .globalImplicit)], false, false, []⟩, 3, [], .none, .none, .none, (.str (.ofString "lua.collector") 833), none, (.ref 453), .none, 0⟩), #[]⟩) ::
  (nat_lit 460, ⟨(.type "code"), none, (.fields #[(.str (.ofString "weak_mode") 844), (.str (.ofString "weak_mode") 845), (.str (.ofString "/claim/cut.py") 846), (.int 287 0), (.int 1 0), (.int 0 0), (.int 0 0), (.int 3 0), (.ref 455), (.bool true), (.int 181 0), (.ref 456), .none, (.ref 457), (.ref 458), (.ref 459), (.int 852 0), (.int 287 0), (.str (.ofString "/claim/cut.py") 853)]), #[]⟩) ::
  (nat_lit 461, ⟨(.type "function"), none, (.func ⟨(.ofString "weak_mode"), (.ofString "weak_mode"), ⟨[], [⟨(.ofString "meta"), none, ⟨287, 14, 287, 18⟩⟩], none, [], [], none, []⟩, (.stmts (bAt 45)), ⟨.function, [((.ofString "meta"), .local), ((.ofString "mode"), .local), ((.ofString "zero"), .local), ((.ofString "found"), .local), ((.ofString "sign"), .local), ((.ofString "isinstance"), .globalImplicit), ((.ofString "bytes"), .globalImplicit)], false, false, []⟩, 3, [], .none, .none, .none, (.str (.ofString "lua.meta") 842), none, (.ref 460), .none, 0⟩), #[]⟩) ::
  (nat_lit 474, ⟨(.type "code"), none, (.fields #[(.str (.ofString "__init__") 888), (.str (.ofString "DeadKey.__init__") 889), (.str (.ofString "/claim/cut.py") 890), (.int 307 0), (.int 2 0), (.int 0 0), (.int 0 0), (.int 3 0), (.ref 469), (.bool true), (.int 181 0), (.ref 470), .none, (.ref 471), (.ref 472), (.ref 473), (.int 893 0), (.int 307 0), (.str (.ofString "/claim/cut.py") 894)]), #[]⟩) ::
  (nat_lit 475, ⟨(.type "function"), none, (.func ⟨(.ofString "__init__"), (.ofString "DeadKey.__init__"), ⟨[], [⟨(.ofString "self"), none, ⟨307, 17, 307, 21⟩⟩, ⟨(.ofString "number"), none, ⟨307, 23, 307, 29⟩⟩], none, [], [], none, []⟩, (.stmts (mAt 54 0)), ⟨.function, [((.ofString "self"), .local), ((.ofString "number"), .local)], false, false, []⟩, 3, [], .none, .none, .none, (.str (.ofString "lua.tables") 855), none, (.ref 474), .none, 0⟩), #[]⟩) ::
  (nat_lit 477, ⟨(.type "dict"), none, (.dict #[⟨(PySem.PyData.keyHash P (.ofString "__module__")), (.str (.ofString "__module__") 883), (.str (.ofString "lua.tables") 855)⟩, ⟨(PySem.PyData.keyHash P (.ofString "__firstlineno__")), (.str (.ofString "__firstlineno__") 887), (.int 305 886)⟩, ⟨(PySem.PyData.keyHash P (.ofString "__init__")), (.str (.ofString "__init__") 895), (.ref 475)⟩, ⟨(PySem.PyData.keyHash P (.ofString "__static_attributes__")), (.str (.ofString "__static_attributes__") 897), (.ref 476)⟩, ⟨(PySem.PyData.keyHash P (.ofString "__dict__")), (.str (.ofString "__dict__") 899), (.ref 479)⟩, ⟨(PySem.PyData.keyHash P (.ofString "__weakref__")), (.str (.ofString "__weakref__") 901), (.ref 480)⟩, ⟨(PySem.PyData.keyHash P (.ofString "__doc__")), (.str (.ofString "__doc__") 902), .none⟩] 4), #[]⟩) ::
  (nat_lit 478, ⟨(.type "type"), none, (.cls ⟨(.ofString "DeadKey"), [(.type "object")], [(.ref 478), (.type "object")], 477, (.ofString "DeadKey"), true, [], [], false, none, false⟩), #[none, none, (some (.str (.ofString "DeadKey") 876)), (some (.str (.ofString "DeadKey") 884)), (some (.builtin "object.__new__")), (some (.bool true))]⟩) ::
  (nat_lit 495, ⟨(.type "code"), none, (.fields #[(.str (.ofString "__init__") 917), (.str (.ofString "Node.__init__") 918), (.str (.ofString "/claim/cut.py") 919), (.int 311 0), (.int 1 0), (.int 0 0), (.int 0 0), (.int 3 0), (.ref 490), (.bool true), (.int 181 0), (.ref 491), .none, (.ref 492), (.ref 493), (.ref 494), (.int 921 0), (.int 311 0), (.str (.ofString "/claim/cut.py") 922)]), #[]⟩) ::
  (nat_lit 496, ⟨(.type "function"), none, (.func ⟨(.ofString "__init__"), (.ofString "Node.__init__"), ⟨[], [⟨(.ofString "self"), none, ⟨311, 17, 311, 21⟩⟩], none, [], [], none, []⟩, (.stmts (mAt 55 0)), ⟨.function, [((.ofString "self"), .local)], false, false, []⟩, 3, [], .none, .none, .none, (.str (.ofString "lua.tables") 855), none, (.ref 495), .none, 0⟩), #[]⟩) ::
  (nat_lit 502, ⟨(.type "code"), none, (.fields #[(.str (.ofString "moved_to") 924), (.str (.ofString "Node.moved_to") 925), (.str (.ofString "/claim/cut.py") 926), (.int 316 0), (.int 2 0), (.int 0 0), (.int 0 0), (.int 3 0), (.ref 497), (.bool true), (.int 181 0), (.ref 498), .none, (.ref 499), (.ref 500), (.ref 501), (.int 929 0), (.int 316 0), (.str (.ofString "/claim/cut.py") 930)]), #[]⟩) ::
  (nat_lit 503, ⟨(.type "function"), none, (.func ⟨(.ofString "moved_to"), (.ofString "Node.moved_to"), ⟨[], [⟨(.ofString "self"), none, ⟨316, 17, 316, 21⟩⟩, ⟨(.ofString "other"), none, ⟨316, 23, 316, 28⟩⟩], none, [], [], none, []⟩, (.stmts (mAt 55 1)), ⟨.function, [((.ofString "self"), .local), ((.ofString "other"), .local)], false, false, []⟩, 3, [], .none, .none, .none, (.str (.ofString "lua.tables") 855), none, (.ref 502), .none, 0⟩), #[]⟩) ::
  (nat_lit 505, ⟨(.type "dict"), none, (.dict #[⟨(PySem.PyData.keyHash P (.ofString "__module__")), (.str (.ofString "__module__") 912), (.str (.ofString "lua.tables") 855)⟩, ⟨(PySem.PyData.keyHash P (.ofString "__firstlineno__")), (.str (.ofString "__firstlineno__") 916), (.int 309 915)⟩, ⟨(PySem.PyData.keyHash P (.ofString "__init__")), (.str (.ofString "__init__") 923), (.ref 496)⟩, ⟨(PySem.PyData.keyHash P (.ofString "moved_to")), (.str (.ofString "moved_to") 931), (.ref 503)⟩, ⟨(PySem.PyData.keyHash P (.ofString "__static_attributes__")), (.str (.ofString "__static_attributes__") 935), (.ref 504)⟩, ⟨(PySem.PyData.keyHash P (.ofString "__dict__")), (.str (.ofString "__dict__") 937), (.ref 507)⟩, ⟨(PySem.PyData.keyHash P (.ofString "__weakref__")), (.str (.ofString "__weakref__") 939), (.ref 508)⟩, ⟨(PySem.PyData.keyHash P (.ofString "__doc__")), (.str (.ofString "__doc__") 940), .none⟩] 4), #[]⟩) ::
  (nat_lit 506, ⟨(.type "type"), none, (.cls ⟨(.ofString "Node"), [(.type "object")], [(.ref 506), (.type "object")], 505, (.ofString "Node"), true, [], [], false, none, false⟩), #[none, none, (some (.str (.ofString "Node") 905)), (some (.str (.ofString "Node") 913)), (some (.builtin "object.__new__")), (some (.bool true))]⟩) ::
  (nat_lit 516, ⟨(.type "code"), none, (.fields #[(.str (.ofString "array_index") 943), (.str (.ofString "array_index") 944), (.str (.ofString "/claim/cut.py") 945), (.int 320 0), (.int 1 0), (.int 0 0), (.int 0 0), (.int 3 0), (.ref 511), (.bool true), (.int 181 0), (.ref 512), .none, (.ref 513), (.ref 514), (.ref 515), (.int 947 0), (.int 320 0), (.str (.ofString "/claim/cut.py") 948)]), #[]⟩) ::
  (nat_lit 517, ⟨(.type "function"), none, (.func ⟨(.ofString "array_index"), (.ofString "array_index"), ⟨[], [⟨(.ofString "key"), none, ⟨320, 16, 320, 19⟩⟩], none, [], [], none, []⟩, (.stmts (bAt 56)), ⟨.function, [((.ofString "key"), .local), ((.ofString "is_number"), .globalImplicit)], false, false, []⟩, 3, [], .none, .none, .none, (.str (.ofString "lua.tables") 855), none, (.ref 516), .none, 0⟩), #[]⟩) ::
  (nat_lit 523, ⟨(.type "code"), none, (.fields #[(.str (.ofString "compute_sizes") 950), (.str (.ofString "compute_sizes") 951), (.str (.ofString "/claim/cut.py") 952), (.int 322 0), (.int 2 0), (.int 0 0), (.int 0 0), (.int 3 0), (.ref 518), (.bool true), (.int 181 0), (.ref 519), .none, (.ref 520), (.ref 521), (.ref 522), (.int 960 0), (.int 322 0), (.str (.ofString "/claim/cut.py") 961)]), #[]⟩) ::
  (nat_lit 524, ⟨(.type "function"), none, (.func ⟨(.ofString "compute_sizes"), (.ofString "compute_sizes"), ⟨[], [⟨(.ofString "counts"), none, ⟨322, 18, 322, 24⟩⟩, ⟨(.ofString "wanted"), none, ⟨322, 26, 322, 32⟩⟩], none, [], [], none, []⟩, (.stmts (bAt 57)), ⟨.function, [((.ofString "counts"), .local), ((.ofString "wanted"), .local), ((.ofString "gathered"), .local), ((.ofString "used"), .local), ((.ofString "size"), .local), ((.ofString "power"), .local), ((.ofString "count"), .local)], false, false, []⟩, 3, [], .none, .none, .none, (.str (.ofString "lua.tables") 855), none, (.ref 523), .none, 0⟩), #[]⟩) ::
  (nat_lit 530, ⟨(.type "code"), none, (.fields #[(.str (.ofString "count_key") 963), (.str (.ofString "count_key") 964), (.str (.ofString "/claim/cut.py") 965), (.int 339 0), (.int 2 0), (.int 0 0), (.int 0 0), (.int 3 0), (.ref 525), (.bool true), (.int 181 0), (.ref 526), .none, (.ref 527), (.ref 528), (.ref 529), (.int 969 0), (.int 339 0), (.str (.ofString "/claim/cut.py") 970)]), #[]⟩) ::
  (nat_lit 531, ⟨(.type "function"), none, (.func ⟨(.ofString "count_key"), (.ofString "count_key"), ⟨[], [⟨(.ofString "key"), none, ⟨339, 14, 339, 17⟩⟩, ⟨(.ofString "counts"), none, ⟨339, 19, 339, 25⟩⟩], none, [], [], none, []⟩, (.stmts (bAt 58)), ⟨.function, [((.ofString "key"), .local), ((.ofString "counts"), .local), ((.ofString "at"), .local), ((.ofString "array_index"), .globalImplicit), ((.ofString "MAX_ARRAY"), .globalImplicit), ((.ofString "ceil_log2"), .globalImplicit)], false, false, []⟩, 3, [], .none, .none, .none, (.str (.ofString "lua.tables") 855), none, (.ref 530), .none, 0⟩), #[]⟩) ::
  (nat_lit 539, ⟨(.type "tuple"), none, (.seq #[(.int 0 985), (.int 0 986), (.int 0 987)] 0), #[]⟩) ::
  (nat_lit 545, ⟨(.type "code"), none, (.fields #[(.str (.ofString "__init__") 988), (.str (.ofString "Table.__init__") 989), (.str (.ofString "/claim/cut.py") 990), (.int 348 0), (.int 4 0), (.int 0 0), (.int 0 0), (.int 3 0), (.ref 540), (.bool true), (.int 181 0), (.ref 541), .none, (.ref 542), (.ref 543), (.ref 544), (.int 995 0), (.int 348 0), (.str (.ofString "/claim/cut.py") 996)]), #[]⟩) ::
  (nat_lit 546, ⟨(.type "function"), none, (.func ⟨(.ofString "__init__"), (.ofString "Table.__init__"), ⟨[], [⟨(.ofString "self"), none, ⟨348, 17, 348, 21⟩⟩, ⟨(.ofString "number"), none, ⟨348, 23, 348, 29⟩⟩, ⟨(.ofString "array_size"), none, ⟨348, 33, 348, 43⟩⟩, ⟨(.ofString "hash_size"), none, ⟨348, 47, 348, 56⟩⟩], none, [], [], none, [(.Constant (.int 0) 0 ⟨348, 30, 348, 31⟩), (.Constant (.int 0) 0 ⟨348, 44, 348, 45⟩), (.Constant (.int 0) 0 ⟨348, 57, 348, 58⟩)]⟩, (.stmts (mAt 59 1)), ⟨.function, [((.ofString "self"), .local), ((.ofString "number"), .local), ((.ofString "array_size"), .local), ((.ofString "hash_size"), .local), ((.ofString "HeapObject"), .globalImplicit), ((.ofString "BASE_SIZE"), .globalImplicit)], false, false, []⟩, 3, [], (.ref 539), .none, .none, (.str (.ofString "lua.tables") 855), none, (.ref 545), .none, 0⟩), #[]⟩) ::
  (nat_lit 552, ⟨(.type "code"), none, (.fields #[(.str (.ofString "main_position") 998), (.str (.ofString "Table.main_position") 999), (.str (.ofString "/claim/cut.py") 1000), (.int 360 0), (.int 2 0), (.int 0 0), (.int 0 0), (.int 3 0), (.ref 547), (.bool true), (.int 181 0), (.ref 548), .none, (.ref 549), (.ref 550), (.ref 551), (.int 1004 0), (.int 360 0), (.str (.ofString "/claim/cut.py") 1005)]), #[]⟩) ::
  (nat_lit 553, ⟨(.type "function"), none, (.func ⟨(.ofString "main_position"), (.ofString "Table.main_position"), ⟨[], [⟨(.ofString "self"), none, ⟨360, 22, 360, 26⟩⟩, ⟨(.ofString "key"), none, ⟨360, 28, 360, 31⟩⟩], none, [], [], none, []⟩, (.stmts (mAt 59 2)), ⟨.function, [((.ofString "self"), .local), ((.ofString "key"), .local), ((.ofString "many"), .local), ((.ofString "len"), .globalImplicit), ((.ofString "isinstance"), .globalImplicit), ((.ofString "bool"), .globalImplicit), ((.ofString "int"), .globalImplicit), ((.ofString "bytes"), .globalImplicit), ((.ofString "string_hash"), .globalImplicit)], false, false, []⟩, 3, [], .none, .none, .none, (.str (.ofString "lua.tables") 855), none, (.ref 552), .none, 0⟩), #[]⟩) ::
  (nat_lit 559, ⟨(.type "code"), none, (.fields #[(.str (.ofString "find_node") 1007), (.str (.ofString "Table.find_node") 1008), (.str (.ofString "/claim/cut.py") 1009), (.int 370 0), (.int 2 0), (.int 0 0), (.int 0 0), (.int 3 0), (.ref 554), (.bool true), (.int 181 0), (.ref 555), .none, (.ref 556), (.ref 557), (.ref 558), (.int 1013 0), (.int 370 0), (.str (.ofString "/claim/cut.py") 1014)]), #[]⟩) ::
  (nat_lit 560, ⟨(.type "function"), none, (.func ⟨(.ofString "find_node"), (.ofString "Table.find_node"), ⟨[], [⟨(.ofString "self"), none, ⟨370, 18, 370, 22⟩⟩, ⟨(.ofString "key"), none, ⟨370, 24, 370, 27⟩⟩], none, [], [], none, []⟩, (.stmts (mAt 59 3)), ⟨.function, [((.ofString "self"), .local), ((.ofString "key"), .local), ((.ofString "at"), .local), ((.ofString "len"), .globalImplicit), ((.ofString "raw_equal"), .globalImplicit)], false, false, []⟩, 3, [], .none, .none, .none, (.str (.ofString "lua.tables") 855), none, (.ref 559), .none, 0⟩), #[]⟩) ::
  (nat_lit 566, ⟨(.type "code"), none, (.fields #[(.str (.ofString "free_position") 1016), (.str (.ofString "Table.free_position") 1017), (.str (.ofString "/claim/cut.py") 1018), (.int 380 0), (.int 1 0), (.int 0 0), (.int 0 0), (.int 3 0), (.ref 561), (.bool true), (.int 181 0), (.ref 562), .none, (.ref 563), (.ref 564), (.ref 565), (.int 1020 0), (.int 380 0), (.str (.ofString "/claim/cut.py") 1021)]), #[]⟩) ::
  (nat_lit 567, ⟨(.type "function"), none, (.func ⟨(.ofString "free_position"), (.ofString "Table.free_position"), ⟨[], [⟨(.ofString "self"), none, ⟨380, 22, 380, 26⟩⟩], none, [], [], none, []⟩, (.stmts (mAt 59 4)), ⟨.function, [((.ofString "self"), .local)], false, false, []⟩, 3, [], .none, .none, .none, (.str (.ofString "lua.tables") 855), none, (.ref 566), .none, 0⟩), #[]⟩) ::
  (nat_lit 573, ⟨(.type "code"), none, (.fields #[(.str (.ofString "get_int") 1023), (.str (.ofString "Table.get_int") 1024), (.str (.ofString "/claim/cut.py") 1025), (.int 387 0), (.int 2 0), (.int 0 0), (.int 0 0), (.int 3 0), (.ref 568), (.bool true), (.int 181 0), (.ref 569), .none, (.ref 570), (.ref 571), (.ref 572), (.int 1029 0), (.int 387 0), (.str (.ofString "/claim/cut.py") 1030)]), #[]⟩) ::
  (nat_lit 574, ⟨(.type "function"), none, (.func ⟨(.ofString "get_int"), (.ofString "Table.get_int"), ⟨[], [⟨(.ofString "self"), none, ⟨387, 16, 387, 20⟩⟩, ⟨(.ofString "n"), none, ⟨387, 22, 387, 23⟩⟩], none, [], [], none, []⟩, (.stmts (mAt 59 5)), ⟨.function, [((.ofString "self"), .local), ((.ofString "n"), .local), ((.ofString "at"), .local), ((.ofString "len"), .globalImplicit)], false, false, []⟩, 3, [], .none, .none, .none, (.str (.ofString "lua.tables") 855), none, (.ref 573), .none, 0⟩), #[]⟩) ::
  (nat_lit 580, ⟨(.type "code"), none, (.fields #[(.str (.ofString "get_text") 1032), (.str (.ofString "Table.get_text") 1033), (.str (.ofString "/claim/cut.py") 1034), (.int 393 0), (.int 2 0), (.int 0 0), (.int 0 0), (.int 3 0), (.ref 575), (.bool true), (.int 181 0), (.ref 576), .none, (.ref 577), (.ref 578), (.ref 579), (.int 1038 0), (.int 393 0), (.str (.ofString "/claim/cut.py") 1039)]), #[]⟩) ::
  (nat_lit 581, ⟨(.type "function"), none, (.func ⟨(.ofString "get_text"), (.ofString "Table.get_text"), ⟨[], [⟨(.ofString "self"), none, ⟨393, 17, 393, 21⟩⟩, ⟨(.ofString "text"), none, ⟨393, 23, 393, 27⟩⟩], none, [], [], none, []⟩, (.stmts (mAt 59 6)), ⟨.function, [((.ofString "self"), .local), ((.ofString "text"), .local), ((.ofString "at"), .local)], false, false, []⟩, 3, [], .none, .none, .none, (.str (.ofString "lua.tables") 855), none, (.ref 580), .none, 0⟩), #[]⟩) ::
  (nat_lit 587, ⟨(.type "code"), none, (.fields #[(.str (.ofString "get") 1041), (.str (.ofString "Table.get") 1042), (.str (.ofString "/claim/cut.py") 1043), (.int 397 0), (.int 2 0), (.int 0 0), (.int 0 0), (.int 3 0), (.ref 582), (.bool true), (.int 181 0), (.ref 583), .none, (.ref 584), (.ref 585), (.ref 586), (.int 1047 0), (.int 397 0), (.str (.ofString "/claim/cut.py") 1048)]), #[]⟩) ::
  (nat_lit 588, ⟨(.type "function"), none, (.func ⟨(.ofString "get"), (.ofString "Table.get"), ⟨[], [⟨(.ofString "self"), none, ⟨397, 12, 397, 16⟩⟩, ⟨(.ofString "key"), none, ⟨397, 18, 397, 21⟩⟩], none, [], [], none, []⟩, (.stmts (mAt 59 7)), ⟨.function, [((.ofString "self"), .local), ((.ofString "key"), .local), ((.ofString "at"), .local), ((.ofString "is_number"), .globalImplicit)], false, false, []⟩, 3, [], .none, .none, .none, (.str (.ofString "lua.tables") 855), none, (.ref 587), .none, 0⟩), #[]⟩) ::
  (nat_lit 594, ⟨(.type "code"), none, (.fields #[(.str (.ofString "set") 1050), (.str (.ofString "Table.set") 1051), (.str (.ofString "/claim/cut.py") 1052), (.int 405 0), (.int 4 0), (.int 0 0), (.int 0 0), (.int 3 0), (.ref 589), (.bool true), (.int 181 0), (.ref 590), .none, (.ref 591), (.ref 592), (.ref 593), (.int 1057 0), (.int 405 0), (.str (.ofString "/claim/cut.py") 1058)]), #[]⟩) ::
  (nat_lit 595, ⟨(.type "function"), none, (.func ⟨(.ofString "set"), (.ofString "Table.set"), ⟨[], [⟨(.ofString "self"), none, ⟨405, 12, 405, 16⟩⟩, ⟨(.ofString "key"), none, ⟨405, 18, 405, 21⟩⟩, ⟨(.ofString "value"), none, ⟨405, 23, 405, 28⟩⟩, ⟨(.ofString "heap"), none, ⟨405, 30, 405, 34⟩⟩], none, [], [], none, []⟩, (.stmts (mAt 59 8)), ⟨.function, [((.ofString "self"), .local), ((.ofString "key"), .local), ((.ofString "value"), .local), ((.ofString "heap"), .local), ((.ofString "LuaError"), .globalImplicit)], false, false, []⟩, 3, [], .none, .none, .none, (.str (.ofString "lua.tables") 855), none, (.ref 594), .none, 0⟩), #[]⟩) ::
  (nat_lit 615, ⟨(.type "code"), none, (.fields #[(.str (.ofString "put") 1080), (.str (.ofString "Table.put") 1081), (.str (.ofString "/claim/cut.py") 1082), (.int 417 0), (.int 4 0), (.int 0 0), (.int 0 0), (.int 3 0), (.ref 610), (.bool true), (.int 181 0), (.ref 611), .none, (.ref 612), (.ref 613), (.ref 614), (.int 1089 0), (.int 417 0), (.str (.ofString "/claim/cut.py") 1090)]), #[]⟩) ::
  (nat_lit 616, ⟨(.type "function"), none, (.func ⟨(.ofString "put"), (.ofString "Table.put"), ⟨[], [⟨(.ofString "self"), none, ⟨417, 12, 417, 16⟩⟩, ⟨(.ofString "key"), none, ⟨417, 18, 417, 21⟩⟩, ⟨(.ofString "value"), none, ⟨417, 23, 417, 28⟩⟩, ⟨(.ofString "heap"), none, ⟨417, 30, 417, 34⟩⟩], none, [], [], none, []⟩, (.stmts (mAt 59 11)), ⟨.function, [((.ofString "self"), .local), ((.ofString "key"), .local), ((.ofString "value"), .local), ((.ofString "heap"), .local), ((.ofString "at"), .local), ((.ofString "spot"), .local), ((.ofString "array_index"), .globalImplicit), ((.ofString "len"), .globalImplicit)], false, false, []⟩, 3, [], .none, .none, .none, (.str (.ofString "lua.tables") 855), none, (.ref 615), .none, 0⟩), #[]⟩) ::
  (nat_lit 622, ⟨(.type "code"), none, (.fields #[(.str (.ofString "new_key") 1092), (.str (.ofString "Table.new_key") 1093), (.str (.ofString "/claim/cut.py") 1094), (.int 430 0), (.int 4 0), (.int 0 0), (.int 0 0), (.int 3 0), (.ref 617), (.bool true), (.int 181 0), (.ref 618), .none, (.ref 619), (.ref 620), (.ref 621), (.int 1103 0), (.int 430 0), (.str (.ofString "/claim/cut.py") 1104)]), #[]⟩) ::
  (nat_lit 623, ⟨(.type "function"), none, (.func ⟨(.ofString "new_key"), (.ofString "Table.new_key"), ⟨[], [⟨(.ofString "self"), none, ⟨430, 16, 430, 20⟩⟩, ⟨(.ofString "key"), none, ⟨430, 22, 430, 25⟩⟩, ⟨(.ofString "value"), none, ⟨430, 27, 430, 32⟩⟩, ⟨(.ofString "heap"), none, ⟨430, 34, 430, 38⟩⟩], none, [], [], none, []⟩, (.stmts (mAt 59 12)), ⟨.function, [((.ofString "self"), .local), ((.ofString "key"), .local), ((.ofString "value"), .local), ((.ofString "heap"), .local), ((.ofString "main"), .local), ((.ofString "place"), .local), ((.ofString "spot"), .local), ((.ofString "other"), .local), ((.ofString "len"), .globalImplicit)], false, false, []⟩, 3, [], .none, .none, .none, (.str (.ofString "lua.tables") 855), none, (.ref 622), .none, 0⟩), #[]⟩) ::
  (nat_lit 629, ⟨(.type "code"), none, (.fields #[(.str (.ofString "put_again") 1106), (.str (.ofString "Table.put_again") 1107), (.str (.ofString "/claim/cut.py") 1108), (.int 460 0), (.int 4 0), (.int 0 0), (.int 0 0), (.int 3 0), (.ref 624), (.bool true), (.int 181 0), (.ref 625), .none, (.ref 626), (.ref 627), (.ref 628), (.int 1114 0), (.int 460 0), (.str (.ofString "/claim/cut.py") 1115)]), #[]⟩) ::
  (nat_lit 630, ⟨(.type "function"), none, (.func ⟨(.ofString "put_again"), (.ofString "Table.put_again"), ⟨[], [⟨(.ofString "self"), none, ⟨460, 18, 460, 22⟩⟩, ⟨(.ofString "key"), none, ⟨460, 24, 460, 27⟩⟩, ⟨(.ofString "value"), none, ⟨460, 29, 460, 34⟩⟩, ⟨(.ofString "heap"), none, ⟨460, 36, 460, 40⟩⟩], none, [], [], none, []⟩, (.stmts (mAt 59 13)), ⟨.function, [((.ofString "self"), .local), ((.ofString "key"), .local), ((.ofString "value"), .local), ((.ofString "heap"), .local), ((.ofString "at"), .local), ((.ofString "array_index"), .globalImplicit), ((.ofString "len"), .globalImplicit)], false, false, []⟩, 3, [], .none, .none, .none, (.str (.ofString "lua.tables") 855), none, (.ref 629), .none, 0⟩), #[]⟩) ::
  (nat_lit 636, ⟨(.type "code"), none, (.fields #[(.str (.ofString "count_array") 1117), (.str (.ofString "Table.count_array") 1118), (.str (.ofString "/claim/cut.py") 1119), (.int 467 0), (.int 2 0), (.int 0 0), (.int 0 0), (.int 3 0), (.ref 631), (.bool true), (.int 181 0), (.ref 632), .none, (.ref 633), (.ref 634), (.ref 635), (.int 1128 0), (.int 467 0), (.str (.ofString "/claim/cut.py") 1129)]), #[]⟩) ::
  (nat_lit 637, ⟨(.type "function"), none, (.func ⟨(.ofString "count_array"), (.ofString "Table.count_array"), ⟨[], [⟨(.ofString "self"), none, ⟨467, 20, 467, 24⟩⟩, ⟨(.ofString "counts"), none, ⟨467, 26, 467, 32⟩⟩], none, [], [], none, []⟩, (.stmts (mAt 59 14)), ⟨.function, [((.ofString "self"), .local), ((.ofString "counts"), .local), ((.ofString "total"), .local), ((.ofString "at"), .local), ((.ofString "limit"), .local), ((.ofString "step"), .local), ((.ofString "last"), .local), ((.ofString "here"), .local), ((.ofString "range"), .globalImplicit), ((.ofString "MAX_BITS"), .globalImplicit), ((.ofString "min"), .globalImplicit), ((.ofString "len"), .globalImplicit)], false, false, []⟩, 3, [], .none, .none, .none, (.str (.ofString "lua.tables") 855), none, (.ref 636), .none, 0⟩), #[]⟩) ::
  (nat_lit 643, ⟨(.type "code"), none, (.fields #[(.str (.ofString "count_nodes") 1131), (.str (.ofString "Table.count_nodes") 1132), (.str (.ofString "/claim/cut.py") 1133), (.int 485 0), (.int 2 0), (.int 0 0), (.int 0 0), (.int 3 0), (.ref 638), (.bool true), (.int 181 0), (.ref 639), .none, (.ref 640), (.ref 641), (.ref 642), (.int 1139 0), (.int 485 0), (.str (.ofString "/claim/cut.py") 1140)]), #[]⟩) ::
  (nat_lit 644, ⟨(.type "function"), none, (.func ⟨(.ofString "count_nodes"), (.ofString "Table.count_nodes"), ⟨[], [⟨(.ofString "self"), none, ⟨485, 20, 485, 24⟩⟩, ⟨(.ofString "counts"), none, ⟨485, 26, 485, 32⟩⟩], none, [], [], none, []⟩, (.stmts (mAt 59 15)), ⟨.function, [((.ofString "self"), .local), ((.ofString "counts"), .local), ((.ofString "total"), .local), ((.ofString "whole"), .local), ((.ofString "node"), .local), ((.ofString "count_key"), .globalImplicit)], false, false, []⟩, 3, [], .none, .none, .none, (.str (.ofString "lua.tables") 855), none, (.ref 643), .none, 0⟩), #[]⟩) ::
  (nat_lit 650, ⟨(.type "code"), none, (.fields #[(.str (.ofString "rehash") 1142), (.str (.ofString "Table.rehash") 1143), (.str (.ofString "/claim/cut.py") 1144), (.int 494 0), (.int 3 0), (.int 0 0), (.int 0 0), (.int 3 0), (.ref 645), (.bool true), (.int 181 0), (.ref 646), .none, (.ref 647), (.ref 648), (.ref 649), (.int 1155 0), (.int 494 0), (.str (.ofString "/claim/cut.py") 1156)]), #[]⟩) ::
  (nat_lit 651, ⟨(.type "function"), none, (.func ⟨(.ofString "rehash"), (.ofString "Table.rehash"), ⟨[], [⟨(.ofString "self"), none, ⟨494, 15, 494, 19⟩⟩, ⟨(.ofString "extra"), none, ⟨494, 21, 494, 26⟩⟩, ⟨(.ofString "heap"), none, ⟨494, 28, 494, 32⟩⟩], none, [], [], none, []⟩, (.stmts (mAt 59 16)), ⟨.function, [((.ofString "self"), .local), ((.ofString "extra"), .local), ((.ofString "heap"), .local), ((.ofString "counts"), .local), ((.ofString "whole"), .local), ((.ofString "total"), .local), ((.ofString "in_nodes"), .local), ((.ofString "whole_nodes"), .local), ((.ofString "size"), .local), ((.ofString "used"), .local), ((.ofString "MAX_BITS"), .globalImplicit), ((.ofString "count_key"), .globalImplicit), ((.ofString "compute_sizes"), .globalImplicit)], false, false, []⟩, 3, [], .none, .none, .none, (.str (.ofString "lua.tables") 855), none, (.ref 650), .none, 0⟩), #[]⟩) ::
  (nat_lit 652, ⟨(.type "tuple"), none, (.seq #[.none] 0), #[]⟩) ::
  (nat_lit 658, ⟨(.type "code"), none, (.fields #[(.str (.ofString "resize") 1158), (.str (.ofString "Table.resize") 1159), (.str (.ofString "/claim/cut.py") 1160), (.int 504 0), (.int 4 0), (.int 0 0), (.int 0 0), (.int 3 0), (.ref 653), (.bool true), (.int 181 0), (.ref 654), .none, (.ref 655), (.ref 656), (.ref 657), (.int 1170 0), (.int 504 0), (.str (.ofString "/claim/cut.py") 1171)]), #[]⟩) ::
  (nat_lit 659, ⟨(.type "function"), none, (.func ⟨(.ofString "resize"), (.ofString "Table.resize"), ⟨[], [⟨(.ofString "self"), none, ⟨504, 15, 504, 19⟩⟩, ⟨(.ofString "array_size"), none, ⟨504, 21, 504, 31⟩⟩, ⟨(.ofString "hash_size"), none, ⟨504, 33, 504, 42⟩⟩, ⟨(.ofString "heap"), none, ⟨504, 44, 504, 48⟩⟩], none, [], [], none, [(.Constant .none 0 ⟨504, 49, 504, 53⟩)]⟩, (.stmts (mAt 59 17)), ⟨.function, [((.ofString "self"), .local), ((.ofString "array_size"), .local), ((.ofString "hash_size"), .local), ((.ofString "heap"), .local), ((.ofString "old_nodes"), .local), ((.ofString "vanishing"), .local), ((.ofString "step"), .local), ((.ofString "value"), .local), ((.ofString "node"), .local), ((.ofString "MOST_SLOTS"), .globalImplicit), ((.ofString "MOST_PLACES"), .globalImplicit), ((.ofString "LuaError"), .globalImplicit), ((.ofString "len"), .globalImplicit), ((.ofString "enumerate"), .globalImplicit), ((.ofString "reversed"), .globalImplicit)], false, false, []⟩, 3, [], (.ref 652), .none, .none, (.str (.ofString "lua.tables") 855), none, (.ref 658), .none, 0⟩), #[]⟩) ::
  (nat_lit 665, ⟨(.type "code"), none, (.fields #[(.str (.ofString "put_back") 1173), (.str (.ofString "Table.put_back") 1174), (.str (.ofString "/claim/cut.py") 1175), (.int 521 0), (.int 4 0), (.int 0 0), (.int 0 0), (.int 3 0), (.ref 660), (.bool true), (.int 181 0), (.ref 661), .none, (.ref 662), (.ref 663), (.ref 664), (.int 1181 0), (.int 521 0), (.str (.ofString "/claim/cut.py") 1182)]), #[]⟩) ::
  (nat_lit 666, ⟨(.type "function"), none, (.func ⟨(.ofString "put_back"), (.ofString "Table.put_back"), ⟨[], [⟨(.ofString "self"), none, ⟨521, 17, 521, 21⟩⟩, ⟨(.ofString "key"), none, ⟨521, 23, 521, 26⟩⟩, ⟨(.ofString "value"), none, ⟨521, 28, 521, 33⟩⟩, ⟨(.ofString "heap"), none, ⟨521, 35, 521, 39⟩⟩], none, [], [], none, []⟩, (.stmts (mAt 59 18)), ⟨.function, [((.ofString "self"), .local), ((.ofString "key"), .local), ((.ofString "value"), .local), ((.ofString "heap"), .local), ((.ofString "at"), .local), ((.ofString "array_index"), .globalImplicit), ((.ofString "len"), .globalImplicit)], false, false, []⟩, 3, [], .none, .none, .none, (.str (.ofString "lua.tables") 855), none, (.ref 665), .none, 0⟩), #[]⟩) ::
  (nat_lit 670, ⟨(.type "code"), none, (.fields #[(.str (.ofString "make_nodes") 1184), (.str (.ofString "Table.make_nodes") 1185), (.str (.ofString "/claim/cut.py") 1186), (.int 528 0), (.int 2 0), (.int 0 0), (.int 0 0), (.int 3 0), (.ref 667), (.bool true), (.int 181 0), (.ref 668), .none, .none, .none, (.ref 669), (.int 1187 0), (.int 528 0), (.str (.ofString "/claim/cut.py") 1188)]), #[]⟩) ::
  (nat_lit 671, ⟨(.type "function"), none, (.func ⟨(.ofString "make_nodes"), (.ofString "Table.make_nodes"), ⟨[], [⟨(.ofString "self"), none, ⟨528, 19, 528, 23⟩⟩, ⟨(.ofString "hash_size"), none, ⟨528, 25, 528, 34⟩⟩], none, [], [], none, []⟩, (.stmts (mAt 59 19)), ⟨.function, [((.ofString "self"), .local), ((.ofString "hash_size"), .local), ((.ofString "MOST_PLACES"), .globalImplicit), ((.ofString "LuaError"), .globalImplicit), ((.ofString "ceil_log2"), .globalImplicit), ((.ofString "range"), .globalImplicit), ((.ofString "len"), .globalImplicit)], false, false, [((.ofString "fast"), (.str (.ofString "self"))), ((.ofString "fast"), (.str (.ofString "hash_size"))), ((.ofString "fast"), (.str (.ofString "step")))]⟩, 3, [], .none, .none, .none, (.str (.ofString "lua.tables") 855), none, (.ref 670), .none, 0⟩), #[]⟩) ::
  (nat_lit 684, ⟨(.type "code"), none, (.fields #[(.str (.ofString "weigh") 1199), (.str (.ofString "Table.weigh") 1200), (.str (.ofString "/claim/cut.py") 1201), (.int 541 0), (.int 2 0), (.int 0 0), (.int 0 0), (.int 3 0), (.ref 679), (.bool true), (.int 181 0), (.ref 680), .none, (.ref 681), (.ref 682), (.ref 683), (.int 1204 0), (.int 541 0), (.str (.ofString "/claim/cut.py") 1205)]), #[]⟩) ::
  (nat_lit 685, ⟨(.type "function"), none, (.func ⟨(.ofString "weigh"), (.ofString "Table.weigh"), ⟨[], [⟨(.ofString "self"), none, ⟨541, 14, 541, 18⟩⟩, ⟨(.ofString "heap"), none, ⟨541, 20, 541, 24⟩⟩], none, [], [], none, []⟩, (.stmts (mAt 59 21)), ⟨.function, [((.ofString "self"), .local), ((.ofString "heap"), .local), ((.ofString "BASE_SIZE"), .globalImplicit), ((.ofString "SLOT_SIZE"), .globalImplicit), ((.ofString "len"), .globalImplicit), ((.ofString "NODE_SIZE"), .globalImplicit)], false, false, []⟩, 3, [], .none, .none, .none, (.str (.ofString "lua.tables") 855), none, (.ref 684), .none, 0⟩), #[]⟩) ::
  (nat_lit 691, ⟨(.type "code"), none, (.fields #[(.str (.ofString "find_index") 1207), (.str (.ofString "Table.find_index") 1208), (.str (.ofString "/claim/cut.py") 1209), (.int 547 0), (.int 2 0), (.int 0 0), (.int 0 0), (.int 3 0), (.ref 686), (.bool true), (.int 181 0), (.ref 687), .none, (.ref 688), (.ref 689), (.ref 690), (.int 1215 0), (.int 547 0), (.str (.ofString "/claim/cut.py") 1216)]), #[]⟩) ::
  (nat_lit 692, ⟨(.type "function"), none, (.func ⟨(.ofString "find_index"), (.ofString "Table.find_index"), ⟨[], [⟨(.ofString "self"), none, ⟨547, 19, 547, 23⟩⟩, ⟨(.ofString "key"), none, ⟨547, 25, 547, 28⟩⟩], none, [], [], none, []⟩, (.stmts (mAt 59 22)), ⟨.function, [((.ofString "self"), .local), ((.ofString "key"), .local), ((.ofString "at"), .local), ((.ofString "spot"), .local), ((.ofString "found"), .local), ((.ofString "array_index"), .globalImplicit), ((.ofString "len"), .globalImplicit), ((.ofString "raw_equal"), .globalImplicit), ((.ofString "isinstance"), .globalImplicit), ((.ofString "DeadKey"), .globalImplicit), ((.ofString "is_collectable"), .globalImplicit), ((.ofString "LuaError"), .globalImplicit)], false, false, []⟩, 3, [], .none, .none, .none, (.str (.ofString "lua.tables") 855), none, (.ref 691), .none, 0⟩), #[]⟩) ::
  (nat_lit 698, ⟨(.type "code"), none, (.fields #[(.str (.ofString "next") 1218), (.str (.ofString "Table.next") 1219), (.str (.ofString "/claim/cut.py") 1220), (.int 563 0), (.int 2 0), (.int 0 0), (.int 0 0), (.int 3 0), (.ref 693), (.bool true), (.int 181 0), (.ref 694), .none, (.ref 695), (.ref 696), (.ref 697), (.int 1226 0), (.int 563 0), (.str (.ofString "/claim/cut.py") 1227)]), #[]⟩) ::
  (nat_lit 699, ⟨(.type "function"), none, (.func ⟨(.ofString "next"), (.ofString "Table.next"), ⟨[], [⟨(.ofString "self"), none, ⟨563, 13, 563, 17⟩⟩, ⟨(.ofString "key"), none, ⟨563, 19, 563, 22⟩⟩], none, [], [], none, []⟩, (.stmts (mAt 59 23)), ⟨.function, [((.ofString "self"), .local), ((.ofString "key"), .local), ((.ofString "at"), .local), ((.ofString "spot"), .local), ((.ofString "node"), .local), ((.ofString "len"), .globalImplicit)], false, false, []⟩, 3, [], .none, .none, .none, (.str (.ofString "lua.tables") 855), none, (.ref 698), .none, 0⟩), #[]⟩) ::
  (nat_lit 736, ⟨(.type "dict"), none, (.dict #[⟨(PySem.PyData.keyHash P (.ofString "__module__")), (.str (.ofString "__module__") 979), (.str (.ofString "lua.tables") 855)⟩, ⟨(PySem.PyData.keyHash P (.ofString "__firstlineno__")), (.str (.ofString "__firstlineno__") 983), (.int 345 982)⟩, ⟨(PySem.PyData.keyHash P (.ofString "kind")), (.str (.ofString "kind") 984), (.int 5 219)⟩, ⟨(PySem.PyData.keyHash P (.ofString "__init__")), (.str (.ofString "__init__") 997), (.ref 546)⟩, ⟨(PySem.PyData.keyHash P (.ofString "main_position")), (.str (.ofString "main_position") 1006), (.ref 553)⟩, ⟨(PySem.PyData.keyHash P (.ofString "find_node")), (.str (.ofString "find_node") 1015), (.ref 560)⟩, ⟨(PySem.PyData.keyHash P (.ofString "free_position")), (.str (.ofString "free_position") 1022), (.ref 567)⟩, ⟨(PySem.PyData.keyHash P (.ofString "get_int")), (.str (.ofString "get_int") 1031), (.ref 574)⟩, ⟨(PySem.PyData.keyHash P (.ofString "get_text")), (.str (.ofString "get_text") 1040), (.ref 581)⟩, ⟨(PySem.PyData.keyHash P (.ofString "get")), (.str (.ofString "get") 1049), (.ref 588)⟩, ⟨(PySem.PyData.keyHash P (.ofString "set")), (.str (.ofString "set") 1059), (.ref 595)⟩, ⟨(PySem.PyData.keyHash P (.ofString "set_int")), (.str (.ofString "set_int") 1069), (.ref 602)⟩, ⟨(PySem.PyData.keyHash P (.ofString "set_text")), (.str (.ofString "set_text") 1079), (.ref 609)⟩, ⟨(PySem.PyData.keyHash P (.ofString "put")), (.str (.ofString "put") 1091), (.ref 616)⟩, ⟨(PySem.PyData.keyHash P (.ofString "new_key")), (.str (.ofString "new_key") 1105), (.ref 623)⟩, ⟨(PySem.PyData.keyHash P (.ofString "put_again")), (.str (.ofString "put_again") 1116), (.ref 630)⟩, ⟨(PySem.PyData.keyHash P (.ofString "count_array")), (.str (.ofString "count_array") 1130), (.ref 637)⟩, ⟨(PySem.PyData.keyHash P (.ofString "count_nodes")), (.str (.ofString "count_nodes") 1141), (.ref 644)⟩, ⟨(PySem.PyData.keyHash P (.ofString "rehash")), (.str (.ofString "rehash") 1157), (.ref 651)⟩, ⟨(PySem.PyData.keyHash P (.ofString "resize")), (.str (.ofString "resize") 1172), (.ref 659)⟩, ⟨(PySem.PyData.keyHash P (.ofString "put_back")), (.str (.ofString "put_back") 1183), (.ref 666)⟩, ⟨(PySem.PyData.keyHash P (.ofString "make_nodes")), (.str (.ofString "make_nodes") 1189), (.ref 671)⟩, ⟨(PySem.PyData.keyHash P (.ofString "resize_array")), (.str (.ofString "resize_array") 1198), (.ref 678)⟩, ⟨(PySem.PyData.keyHash P (.ofString "weigh")), (.str (.ofString "weigh") 1206), (.ref 685)⟩, ⟨(PySem.PyData.keyHash P (.ofString "find_index")), (.str (.ofString "find_index") 1217), (.ref 692)⟩, ⟨(PySem.PyData.keyHash P (.ofString "next")), (.str (.ofString "next") 1228), (.ref 699)⟩, ⟨(PySem.PyData.keyHash P (.ofString "length")), (.str (.ofString "length") 1235), (.ref 706)⟩, ⟨(PySem.PyData.keyHash P (.ofString "unbound_search")), (.str (.ofString "unbound_search") 1243), (.ref 713)⟩, ⟨(PySem.PyData.keyHash P (.ofString "bury")), (.str (.ofString "bury") 1251), (.ref 720)⟩, ⟨(PySem.PyData.keyHash P (.ofString "bury_empty")), (.str (.ofString "bury_empty") 1258), (.ref 727)⟩, ⟨(PySem.PyData.keyHash P (.ofString "entries")), (.str (.ofString "entries") 1265), (.ref 734)⟩, ⟨(PySem.PyData.keyHash P (.ofString "__static_attributes__")), (.str (.ofString "__static_attributes__") 1274), (.ref 735)⟩, ⟨(PySem.PyData.keyHash P (.ofString "__doc__")), (.str (.ofString "__doc__") 1275), .none⟩] 2), #[]⟩) ::
  (nat_lit 737, ⟨(.type "type"), none, (.cls ⟨(.ofString "Table"), [(.ref 101)], [(.ref 737), (.ref 101), (.type "object")], 736, (.ofString "Table"), true, [], [], false, none, false⟩), #[(some (.ref 532)), none, (some (.str (.ofString "Table") 972)), (some (.str (.ofString "Table") 980)), (some (.builtin "object.__new__")), (some (.bool true))]⟩) ::
  (nat_lit 752, ⟨(.type "code"), none, (.fields #[(.str (.ofString "__init__") 1292), (.str (.ofString "PlainHeap.__init__") 1293), (.str (.ofString "/claim/cut.py") 1294), (.int 594 0), (.int 1 0), (.int 0 0), (.int 0 0), (.int 3 0), (.ref 747), (.bool true), (.int 181 0), (.ref 748), .none, (.ref 749), (.ref 750), (.ref 751), (.int 1296 0), (.int 594 0), (.str (.ofString "/claim/cut.py") 1297)]), #[]⟩) ::
  (nat_lit 753, ⟨(.type "function"), none, (.func ⟨(.ofString "__init__"), (.ofString "PlainHeap.__init__"), ⟨[], [⟨(.ofString "self"), none, ⟨594, 17, 594, 21⟩⟩], none, [], [], none, []⟩, (.stmts (mAt 61 0)), ⟨.function, [((.ofString "self"), .local)], false, false, []⟩, 3, [], .none, .none, .none, (.str (.ofString "lua.plainheap") 1278), none, (.ref 752), .none, 0⟩), #[]⟩) ::
  (nat_lit 759, ⟨(.type "code"), none, (.fields #[(.str (.ofString "link") 1299), (.str (.ofString "PlainHeap.link") 1300), (.str (.ofString "/claim/cut.py") 1301), (.int 598 0), (.int 3 0), (.int 0 0), (.int 0 0), (.int 3 0), (.ref 754), (.bool true), (.int 181 0), (.ref 755), .none, (.ref 756), (.ref 757), (.ref 758), (.int 1305 0), (.int 598 0), (.str (.ofString "/claim/cut.py") 1306)]), #[]⟩) ::
  (nat_lit 760, ⟨(.type "function"), none, (.func ⟨(.ofString "link"), (.ofString "PlainHeap.link"), ⟨[], [⟨(.ofString "self"), none, ⟨598, 13, 598, 17⟩⟩, ⟨(.ofString "obj"), none, ⟨598, 19, 598, 22⟩⟩, ⟨(.ofString "size"), none, ⟨598, 24, 598, 28⟩⟩], none, [], [], none, []⟩, (.stmts (mAt 61 1)), ⟨.function, [((.ofString "self"), .local), ((.ofString "obj"), .local), ((.ofString "size"), .local)], false, false, []⟩, 3, [], .none, .none, .none, (.str (.ofString "lua.plainheap") 1278), none, (.ref 759), .none, 0⟩), #[]⟩) ::
  (nat_lit 780, ⟨(.type "code"), none, (.fields #[(.str (.ofString "new_upval") 1327), (.str (.ofString "PlainHeap.new_upval") 1328), (.str (.ofString "/claim/cut.py") 1329), (.int 610 0), (.int 3 0), (.int 0 0), (.int 0 0), (.int 3 0), (.ref 775), (.bool true), (.int 181 0), (.ref 776), .none, (.ref 777), (.ref 778), (.ref 779), (.int 1334 0), (.int 610 0), (.str (.ofString "/claim/cut.py") 1335)]), #[]⟩) ::
  (nat_lit 781, ⟨(.type "function"), none, (.func ⟨(.ofString "new_upval"), (.ofString "PlainHeap.new_upval"), ⟨[], [⟨(.ofString "self"), none, ⟨610, 18, 610, 22⟩⟩, ⟨(.ofString "thread"), none, ⟨610, 24, 610, 30⟩⟩, ⟨(.ofString "index"), none, ⟨610, 32, 610, 37⟩⟩], none, [], [], none, []⟩, (.stmts (mAt 61 4)), ⟨.function, [((.ofString "self"), .local), ((.ofString "thread"), .local), ((.ofString "index"), .local), ((.ofString "upval"), .local), ((.ofString "UpVal"), .globalImplicit)], false, false, []⟩, 3, [], .none, .none, .none, (.str (.ofString "lua.plainheap") 1278), none, (.ref 780), .none, 0⟩), #[]⟩) ::
  (nat_lit 787, ⟨(.type "code"), none, (.fields #[(.str (.ofString "is_dead") 1337), (.str (.ofString "PlainHeap.is_dead") 1338), (.str (.ofString "/claim/cut.py") 1339), (.int 615 0), (.int 2 0), (.int 0 0), (.int 0 0), (.int 3 0), (.ref 782), (.bool true), (.int 181 0), (.ref 783), .none, (.ref 784), (.ref 785), (.ref 786), (.int 1342 0), (.int 615 0), (.str (.ofString "/claim/cut.py") 1343)]), #[]⟩) ::
  (nat_lit 788, ⟨(.type "function"), none, (.func ⟨(.ofString "is_dead"), (.ofString "PlainHeap.is_dead"), ⟨[], [⟨(.ofString "self"), none, ⟨615, 16, 615, 20⟩⟩, ⟨(.ofString "obj"), none, ⟨615, 22, 615, 25⟩⟩], none, [], [], none, []⟩, (.stmts (mAt 61 5)), ⟨.function, [((.ofString "self"), .local), ((.ofString "obj"), .local)], false, false, []⟩, 3, [], .none, .none, .none, (.str (.ofString "lua.plainheap") 1278), none, (.ref 787), .none, 0⟩), #[]⟩) ::
  (nat_lit 794, ⟨(.type "code"), none, (.fields #[(.str (.ofString "revive") 1345), (.str (.ofString "PlainHeap.revive") 1346), (.str (.ofString "/claim/cut.py") 1347), (.int 618 0), (.int 2 0), (.int 0 0), (.int 0 0), (.int 3 0), (.ref 789), (.bool true), (.int 181 0), (.ref 790), .none, (.ref 791), (.ref 792), (.ref 793), (.int 1350 0), (.int 618 0), (.str (.ofString "/claim/cut.py") 1351)]), #[]⟩) ::
  (nat_lit 795, ⟨(.type "function"), none, (.func ⟨(.ofString "revive"), (.ofString "PlainHeap.revive"), ⟨[], [⟨(.ofString "self"), none, ⟨618, 15, 618, 19⟩⟩, ⟨(.ofString "obj"), none, ⟨618, 21, 618, 24⟩⟩], none, [], [], none, []⟩, (.stmts (mAt 61 6)), ⟨.function, [((.ofString "self"), .local), ((.ofString "obj"), .local)], false, false, []⟩, 3, [], .none, .none, .none, (.str (.ofString "lua.plainheap") 1278), none, (.ref 794), .none, 0⟩), #[]⟩) ::
  (nat_lit 801, ⟨(.type "code"), none, (.fields #[(.str (.ofString "closed_upval") 1353), (.str (.ofString "PlainHeap.closed_upval") 1354), (.str (.ofString "/claim/cut.py") 1355), (.int 621 0), (.int 2 0), (.int 0 0), (.int 0 0), (.int 3 0), (.ref 796), (.bool true), (.int 181 0), (.ref 797), .none, (.ref 798), (.ref 799), (.ref 800), (.int 1358 0), (.int 621 0), (.str (.ofString "/claim/cut.py") 1359)]), #[]⟩) ::
  (nat_lit 802, ⟨(.type "function"), none, (.func ⟨(.ofString "closed_upval"), (.ofString "PlainHeap.closed_upval"), ⟨[], [⟨(.ofString "self"), none, ⟨621, 21, 621, 25⟩⟩, ⟨(.ofString "upval"), none, ⟨621, 27, 621, 32⟩⟩], none, [], [], none, []⟩, (.stmts (mAt 61 7)), ⟨.function, [((.ofString "self"), .local), ((.ofString "upval"), .local)], false, false, []⟩, 3, [], .none, .none, .none, (.str (.ofString "lua.plainheap") 1278), none, (.ref 801), .none, 0⟩), #[]⟩) ::
  (nat_lit 808, ⟨(.type "code"), none, (.fields #[(.str (.ofString "resized") 1361), (.str (.ofString "PlainHeap.resized") 1362), (.str (.ofString "/claim/cut.py") 1363), (.int 624 0), (.int 2 0), (.int 0 0), (.int 0 0), (.int 3 0), (.ref 803), (.bool true), (.int 181 0), (.ref 804), .none, (.ref 805), (.ref 806), (.ref 807), (.int 1366 0), (.int 624 0), (.str (.ofString "/claim/cut.py") 1367)]), #[]⟩) ::
  (nat_lit 809, ⟨(.type "function"), none, (.func ⟨(.ofString "resized"), (.ofString "PlainHeap.resized"), ⟨[], [⟨(.ofString "self"), none, ⟨624, 16, 624, 20⟩⟩, ⟨(.ofString "table"), none, ⟨624, 22, 624, 27⟩⟩], none, [], [], none, []⟩, (.stmts (mAt 61 8)), ⟨.function, [((.ofString "self"), .local), ((.ofString "table"), .local)], false, false, []⟩, 3, [], .none, .none, .none, (.str (.ofString "lua.plainheap") 1278), none, (.ref 808), .none, 0⟩), #[]⟩) ::
  (nat_lit 829, ⟨(.type "code"), none, (.fields #[(.str (.ofString "barrier_table") 1386), (.str (.ofString "PlainHeap.barrier_table") 1387), (.str (.ofString "/claim/cut.py") 1388), (.int 633 0), (.int 3 0), (.int 0 0), (.int 0 0), (.int 3 0), (.ref 824), (.bool true), (.int 181 0), (.ref 825), .none, (.ref 826), (.ref 827), (.ref 828), (.int 1392 0), (.int 633 0), (.str (.ofString "/claim/cut.py") 1393)]), #[]⟩) ::
  (nat_lit 830, ⟨(.type "function"), none, (.func ⟨(.ofString "barrier_table"), (.ofString "PlainHeap.barrier_table"), ⟨[], [⟨(.ofString "self"), none, ⟨633, 22, 633, 26⟩⟩, ⟨(.ofString "table"), none, ⟨633, 28, 633, 33⟩⟩, ⟨(.ofString "value"), none, ⟨633, 35, 633, 40⟩⟩], none, [], [], none, []⟩, (.stmts (mAt 61 11)), ⟨.function, [((.ofString "self"), .local), ((.ofString "table"), .local), ((.ofString "value"), .local)], false, false, []⟩, 3, [], .none, .none, .none, (.str (.ofString "lua.plainheap") 1278), none, (.ref 829), .none, 0⟩), #[]⟩) ::
  (nat_lit 839, ⟨(.type "dict"), none, (.dict #[⟨(PySem.PyData.keyHash P (.ofString "__module__")), (.str (.ofString "__module__") 1287), (.str (.ofString "lua.plainheap") 1278)⟩, ⟨(PySem.PyData.keyHash P (.ofString "__firstlineno__")), (.str (.ofString "__firstlineno__") 1291), (.int 592 1290)⟩, ⟨(PySem.PyData.keyHash P (.ofString "__init__")), (.str (.ofString "__init__") 1298), (.ref 753)⟩, ⟨(PySem.PyData.keyHash P (.ofString "link")), (.str (.ofString "link") 1307), (.ref 760)⟩, ⟨(PySem.PyData.keyHash P (.ofString "new_table")), (.str (.ofString "new_table") 1316), (.ref 767)⟩, ⟨(PySem.PyData.keyHash P (.ofString "new_lua_closure")), (.str (.ofString "new_lua_closure") 1326), (.ref 774)⟩, ⟨(PySem.PyData.keyHash P (.ofString "new_upval")), (.str (.ofString "new_upval") 1336), (.ref 781)⟩, ⟨(PySem.PyData.keyHash P (.ofString "is_dead")), (.str (.ofString "is_dead") 1344), (.ref 788)⟩, ⟨(PySem.PyData.keyHash P (.ofString "revive")), (.str (.ofString "revive") 1352), (.ref 795)⟩, ⟨(PySem.PyData.keyHash P (.ofString "closed_upval")), (.str (.ofString "closed_upval") 1360), (.ref 802)⟩, ⟨(PySem.PyData.keyHash P (.ofString "resized")), (.str (.ofString "resized") 1368), (.ref 809)⟩, ⟨(PySem.PyData.keyHash P (.ofString "barrier")), (.str (.ofString "barrier") 1377), (.ref 816)⟩, ⟨(PySem.PyData.keyHash P (.ofString "barrier_back")), (.str (.ofString "barrier_back") 1385), (.ref 823)⟩, ⟨(PySem.PyData.keyHash P (.ofString "barrier_table")), (.str (.ofString "barrier_table") 1394), (.ref 830)⟩, ⟨(PySem.PyData.keyHash P (.ofString "check")), (.str (.ofString "check") 1402), (.ref 837)⟩, ⟨(PySem.PyData.keyHash P (.ofString "__static_attributes__")), (.str (.ofString "__static_attributes__") 1405), (.ref 838)⟩, ⟨(PySem.PyData.keyHash P (.ofString "__dict__")), (.str (.ofString "__dict__") 1407), (.ref 841)⟩, ⟨(PySem.PyData.keyHash P (.ofString "__weakref__")), (.str (.ofString "__weakref__") 1409), (.ref 842)⟩, ⟨(PySem.PyData.keyHash P (.ofString "__doc__")), (.str (.ofString "__doc__") 1410), .none⟩] 4), #[]⟩) ::
  (nat_lit 840, ⟨(.type "type"), none, (.cls ⟨(.ofString "PlainHeap"), [(.type "object")], [(.ref 840), (.type "object")], 839, (.ofString "PlainHeap"), true, [], [], false, none, false⟩), #[none, none, (some (.str (.ofString "PlainHeap") 1280)), (some (.str (.ofString "PlainHeap") 1288)), (some (.builtin "object.__new__")), (some (.bool true))]⟩) ::
  (nat_lit 850, ⟨(.type "code"), none, (.fields #[(.str (.ofString "_law_swept") 1415), (.str (.ofString "_law_swept") 1416), (.str (.ofString "/claim/cut.py") 1417), (.int 639 0), (.int 2 0), (.int 0 0), (.int 0 0), (.int 3 0), (.ref 845), (.bool true), (.int 181 0), (.ref 846), .none, (.ref 847), (.ref 848), (.ref 849), (.int 1422 0), (.int 639 0), (.str (.ofString "/claim/cut.py") 1423)]), #[]⟩) ::
  (nat_lit 851, ⟨(.type "function"), none, (.func ⟨(.ofString "_law_swept"), (.ofString "_law_swept"), ⟨[], [⟨(.ofString "broom"), none, ⟨639, 15, 639, 20⟩⟩, ⟨(.ofString "many"), none, ⟨639, 22, 639, 26⟩⟩], none, [], [], none, []⟩, (.stmts (bAt 63)), ⟨.function, [((.ofString "broom"), .local), ((.ofString "many"), .local), ((.ofString "cells"), .local), ((.ofString "turn"), .local), ((.ofString "len"), .globalImplicit), ((.ofString "abs"), .globalImplicit), ((.ofString "int"), .globalImplicit)], false, false, []⟩, 3, [], .none, .none, .none, (.str (.ofString "law_rh0170_01") 1413), none, (.ref 850), .none, 0⟩), #[]⟩) ::
  (nat_lit 855, ⟨(.type "code"), none, (.fields #[(.str (.ofString "_law_mode_right") 1425), (.str (.ofString "_law_mode_right") 1426), (.str (.ofString "/claim/cut.py") 1427), (.int 643 0), (.int 1 0), (.int 0 0), (.int 0 0), (.int 3 0), (.ref 852), (.bool true), (.int 181 0), (.ref 853), .none, .none, .none, (.ref 854), (.int 1428 0), (.int 643 0), (.str (.ofString "/claim/cut.py") 1429)]), #[]⟩) ::
  (nat_lit 856, ⟨(.type "function"), none, (.func ⟨(.ofString "_law_mode_right"), (.ofString "_law_mode_right"), ⟨[], [⟨(.ofString "broom"), none, ⟨643, 20, 643, 25⟩⟩], none, [], [], none, []⟩, (.stmts (bAt 64)), ⟨.function, [((.ofString "broom"), .cell), ((.ofString "octets"), .local), ((.ofString "value"), .local), ((.ofString "meta"), .local), ((.ofString "due"), .local), ((.ofString "is_over"), .local), ((.ofString "kept"), .local), ((.ofString "octet"), .local), ((.ofString "bytes"), .globalImplicit), ((.ofString "range"), .globalImplicit), ((.ofString "_law_swept"), .globalImplicit), ((.ofString "Table"), .globalImplicit), ((.ofString "isinstance"), .globalImplicit), ((.ofString "int"), .globalImplicit), ((.ofString "weak_mode"), .globalImplicit)], false, false, [((.ofString "fast"), (.str (.ofString "broom"))), ((.ofString "fast"), (.str (.ofString "turn"))), ((.ofString "fast"), (.str (.ofString "octets"))), ((.ofString "fast"), (.str (.ofString "value"))), ((.ofString "fast"), (.str (.ofString "meta"))), ((.ofString "fast"), (.str (.ofString "due"))), ((.ofString "fast"), (.str (.ofString "is_over"))), ((.ofString "fast"), (.str (.ofString "kept"))), ((.ofString "fast"), (.str (.ofString "octet")))]⟩, 3, [], .none, .none, .none, (.str (.ofString "law_rh0170_01") 1413), none, (.ref 855), .none, 0⟩), #[]⟩) ::
  (nat_lit 860, ⟨(.type "code"), none, (.fields #[(.str (.ofString "law") 1431), (.str (.ofString "law") 1432), (.str (.ofString "/claim/cut.py") 1433), (.int 656 0), (.int 1 0), (.int 0 0), (.int 0 0), (.int 3 0), (.ref 857), (.bool true), (.int 181 0), (.ref 858), .none, .none, .none, (.ref 859), (.int 1434 0), (.int 656 0), (.str (.ofString "/claim/cut.py") 1435)]), #[]⟩) ::
  (nat_lit 861, ⟨(.type "function"), none, (.func ⟨(.ofString "law"), (.ofString "law"), ⟨[], [⟨(.ofString "script"), none, ⟨656, 8, 656, 14⟩⟩], none, [], [], none, []⟩, (.stmts (bAt 65)), ⟨.function, [((.ofString "script"), .local), ((.ofString "broom"), .local), ((.ofString "glob_here"), .local), ((.ofString "thread"), .local), ((.ofString "upvals"), .local), ((.ofString "is_begun"), .local), ((.ofString "ground"), .local), ((.ofString "turn"), .local), ((.ofString "value"), .local), ((.ofString "index"), .local), ((.ofString "_law_mode_right"), .globalImplicit), ((.ofString "Global"), .globalImplicit), ((.ofString "Limits"), .globalImplicit), ((.ofString "PlainHeap"), .globalImplicit), ((.ofString "Thread"), .globalImplicit), ((.ofString "_law_swept"), .globalImplicit), ((.ofString "range"), .globalImplicit), ((.ofString "find_upval"), .globalImplicit), ((.ofString "grounded"), .globalImplicit), ((.ofString "len"), .globalImplicit)], false, false, [((.ofString "fast"), (.str (.ofString "script"))), ((.ofString "fast"), (.str (.ofString "broom"))), ((.ofString "fast"), (.str (.ofString "glob_here"))), ((.ofString "fast"), (.str (.ofString "thread"))), ((.ofString "fast"), (.str (.ofString "upvals"))), ((.ofString "fast"), (.str (.ofString "is_begun"))), ((.ofString "fast"), (.str (.ofString "ground"))), ((.ofString "fast"), (.str (.ofString "turn"))), ((.ofString "fast"), (.str (.ofString "value"))), ((.ofString "fast"), (.str (.ofString "index"))), ((.ofString "fast"), (.str (.ofString "upval")))]⟩, 3, [], .none, .none, .none, (.str (.ofString "law_rh0170_01") 1413), none, (.ref 860), .none, 0⟩), #[]⟩) :: []
def KAs : List Addr := [nat_lit 2, nat_lit 3, nat_lit 20, nat_lit 21, nat_lit 27, nat_lit 28, nat_lit 36, nat_lit 42, nat_lit 43, nat_lit 49, nat_lit 50, nat_lit 56, nat_lit 57, nat_lit 59, nat_lit 60, nat_lit 77, nat_lit 78, nat_lit 80, nat_lit 81, nat_lit 97, nat_lit 98, nat_lit 100, nat_lit 101, nat_lit 118, nat_lit 119, nat_lit 121, nat_lit 122, nat_lit 132, nat_lit 133, nat_lit 139, nat_lit 140, nat_lit 146, nat_lit 147, nat_lit 153, nat_lit 154, nat_lit 160, nat_lit 161, nat_lit 167, nat_lit 168, nat_lit 174, nat_lit 175, nat_lit 188, nat_lit 189, nat_lit 195, nat_lit 196, nat_lit 197, nat_lit 203, nat_lit 204, nat_lit 210, nat_lit 211, nat_lit 217, nat_lit 218, nat_lit 220, nat_lit 221, nat_lit 229, nat_lit 230, nat_lit 236, nat_lit 237, nat_lit 243, nat_lit 244, nat_lit 250, nat_lit 251, nat_lit 264, nat_lit 265, nat_lit 281, nat_lit 282, nat_lit 299, nat_lit 300, nat_lit 306, nat_lit 307, nat_lit 308, nat_lit 316, nat_lit 322, nat_lit 323, nat_lit 329, nat_lit 330, nat_lit 336, nat_lit 337, nat_lit 343, nat_lit 344, nat_lit 350, nat_lit 351, nat_lit 357, nat_lit 358, nat_lit 364, nat_lit 365, nat_lit 378, nat_lit 379, nat_lit 402, nat_lit 403, nat_lit 418, nat_lit 419, nat_lit 428, nat_lit 429, nat_lit 439, nat_lit 440, nat_lit 446, nat_lit 447, nat_lit 453, nat_lit 454, nat_lit 460, nat_lit 461, nat_lit 474, nat_lit 475, nat_lit 477, nat_lit 478, nat_lit 495, nat_lit 496, nat_lit 502, nat_lit 503, nat_lit 505, nat_lit 506, nat_lit 516, nat_lit 517, nat_lit 523, nat_lit 524, nat_lit 530, nat_lit 531, nat_lit 539, nat_lit 545, nat_lit 546, nat_lit 552, nat_lit 553, nat_lit 559, nat_lit 560, nat_lit 566, nat_lit 567, nat_lit 573, nat_lit 574, nat_lit 580, nat_lit 581, nat_lit 587, nat_lit 588, nat_lit 594, nat_lit 595, nat_lit 615, nat_lit 616, nat_lit 622, nat_lit 623, nat_lit 629, nat_lit 630, nat_lit 636, nat_lit 637, nat_lit 643, nat_lit 644, nat_lit 650, nat_lit 651, nat_lit 652, nat_lit 658, nat_lit 659, nat_lit 665, nat_lit 666, nat_lit 670, nat_lit 671, nat_lit 684, nat_lit 685, nat_lit 691, nat_lit 692, nat_lit 698, nat_lit 699, nat_lit 736, nat_lit 737, nat_lit 752, nat_lit 753, nat_lit 759, nat_lit 760, nat_lit 780, nat_lit 781, nat_lit 787, nat_lit 788, nat_lit 794, nat_lit 795, nat_lit 801, nat_lit 802, nat_lit 808, nat_lit 809, nat_lit 829, nat_lit 830, nat_lit 839, nat_lit 840, nat_lit 850, nat_lit 851, nat_lit 855, nat_lit 856, nat_lit 860, nat_lit 861]
theorem kE : ∀ P, KAs = (KT P).map (·.1) := by intro P; kernel_rfl
noncomputable abbrev hkT : Hook := kHook KT KAs kE
theorem lk_K (w : World) (os : OsState) : hkT.obs (ST w os) = hkT.val w := by kernel_rfl
theorem leftT : LeftO lT.row.prog qT looseT XtT hkT.obs hkT.val 20000 :=
  LeftO.of_pieces lk_open lk_size pcrun (by decide) fun w => funext fun os => Prod.ext (lk_a w os) (Prod.ext (lk_b w os) (lk_K w os))
noncomputable def dT : DefRec := ⟨s251, a239, (bAt 65), c240, ⟨656, 0, 682, 88⟩⟩
theorem dT_is : defOf qT lT.row.name = some (dT, []) := by kernel_rfl
theorem dT_prog : lT.row.prog.theDef lT.row.name = some (dT.params, dT.body, dT.scope) := by rw [Fast.te10235530238920679567]; kernel_rfl
theorem wsA : (sreFenced pT.main && ((moduleNames pT.main.body).isEmpty || lookedIntoSs (moduleNames pT.main.body) pT.main.body)) = true := by
  rw [Fast.te11788848310118352699, Fast.te9807087744658564304, Fast.te12862048085361865435]; kernel_rfl
theorem wsC : namesResolve pT = true := by rw [Fast.te8377067652309620493]; kernel_rfl
theorem wsD : (pT.boundNames.all (fun n => !worldNames.contains n)) = true := by rw [Fast.te18344453789297297638, Fast.te14412699480532031325]; kernel_rfl
theorem wsR1 : readsOut pT pT.main.body "vars" = false := by rw [Fast.te13343964577679436407]; kernel_rfl
theorem wsR2 : readsOut pT pT.main.body "dir" = false := by rw [Fast.te13343964577679436407]; kernel_rfl
theorem wsR3 : readsOut pT pT.main.body "locals" = false := by rw [Fast.te13343964577679436407]; kernel_rfl
theorem wsB : (["vars", "dir", "locals"] : List Str).filter (readsOut pT pT.main.body) = [] := by
  rw [List.filter_cons, wsR1, List.filter_cons, wsR2, List.filter_cons, wsR3]; rfl
theorem wsE : noRoadLSs { strict := !(importedModules pT.main.body).all cThrough.contains, foot := none, bare := (["vars", "dir", "locals"] : List Str).filter (readsOut pT pT.main.body) } pT.main.body = true := by
  rw [wsB, Fast.te8326940854005059898, Fast.te5923862056798008813, Fast.te17691160309236699985]; kernel_rfl
theorem wsF : (namesMeet pT pT.main.body fun _ n => attrL n) = true := by rw [Fast.te17119622794617984870, Fast.te17868728402115742887]; kernel_rfl
theorem wsL : looksOpen pT = true := by
  unfold looksOpen
  exact look_both (look_both (look_both (look_both wsA wsC) wsD) wsE) wsF
theorem wsT : lT.wellSaid = true := by
  rw [Fast.te9446332074065402090]
  unfold Fast.tw9446332074065402090 Fast.tw17960256430627541270 Fast.tw2436336058641802641
  rw [← Fast.te12908688711261696721, show looksOpen (Fast.tw2368527892694137696 lT).prog = true from wsL]
  kernel_rfl
theorem rwT : PySem.Challenge.rw_rh0170_01 = lT := by kernel_rfl
theorem okT : (chainsOk qT && opensWell lT.row.prog && (frees lT.row.toRowW && lT.row.toRowW.within.isEmpty)) = true := by kernel_rfl
theorem hd2 (call : WalkO qT looseT (XL qT []) hkT.says lT.row.toRowW dT [] (fun f vs => PySem.call f vs)) : PySem.Challenge.rw_rh0170_01.Holds := by
  rw [rwT]
  exact holds_law wsT fun said => holds_open leftT hkT.of hkT.keeps (fun s e => xl_of s (Bool.and_eq_true_iff.mp e).1) XL.keeps dT_is dT_prog (by kernel_rfl) (fun s e => recFacts_of (Bool.and_eq_true_iff.mp e).2) (by kernel_rfl) said okT ⟨rfl, rfl, rfl, rfl, rfl, by kernel_rfl⟩ ⟨[.list []], by kernel_rfl, by kernel_rfl⟩ call
end Mine
namespace Mine
open PySem PySem.W PySem.Calls PyProof.Rows PySem.Spec
section
variable {prog : Program} {w : World} {A A₀ : Around} {E : Value → Shared → Prop} {s : Shared} {K : Frag} {C L x dx : Addr} {h₀ base : Heap} {m mg mb : Str → Option Value} {news news' : List (Addr × Obj)} {p : Program} {loose : List Str} {mean : ExcName → Option Value}
  {ox : Obj} {es : List DictEntry} {n : Nat} {name : Str} {v : Value}

/-- entering a def whose body is given by a projection of the text -/
theorem code_defB {env : Env} {outer : List Env} {R : Result → Shared → Prop} {nm qual : Str} {params : Arguments} {body body' : List Stmt} {scope : Scope} {dV kV doc pm cdv ct oc : Value} {an od : Option Addr} {osl : Array (Option Value)} {f : Addr} {args : Args} {binds : List (Str × Value)}
    (B : Below A₀ base outer h₀) (F : Fr h₀ L s.heap m) (X₀ : K.In h₀) (N : News h₀ L s.heap news) (T : Top p loose mean mg mb h₀) (hA : A.frames = some (env :: outer)) (hf : env.frame = some L) (hke : env.scope.kind = .function)
    (ho : K.lookup f = some ⟨oc, od, .func (fnOf nm qual params body scope dV kV doc pm an cdv ct), osl⟩) (hbody : body = body') (hcd : codeIn K cdv qual = true) (hroom : A.depth < recursionLimit)
    (hbind : BindsTo s (fnOf nm qual params body' scope dV kV doc pm an cdv ct) args binds) (hloc : ∀ y ∈ binds, scope.names.lookup y.1 = some .local)
    (h : ∀ g L' h₁, Fr h₀ L g m → Fr g L' h₁ (fun y => binds.reverse.lookup y) → News g L' h₁ news → Below A base (env :: outer) g → K.In g → Top p loose mean mg mb g →
      wpAny (model prog w) (A.deeper (envOf qual scope L' f cdv)) (execs body' (envOf qual scope L' f cdv))
        (fun fl s' => LeaveK h₀ L m g R (match fl with | .ret v => v | _ => .none) s')
        (fun e s' => wpAny (model prog w) (A.deeper (envOf qual scope L' f cdv)) (leaving (envOf qual scope L' f cdv) e) (fun _ s'' => R (.error e) s'') (fun e' s'' => R (.error e') s'') s')
        { s with heap := h₁, toks := s.toks + binds.length })
    (hco : scope.isCoroutine = false) (hgen : scope.isGenerator = false) (hk : scope.kind = .function)
    (hcell : ∀ x ∈ scope.names, x.2 ≠ .cell) : codeAny (model prog w) A (.call (.ref f) args) R s := by
  subst hbody
  exact code_def B F X₀ N T hA hf hke ho hcd hroom hbind hloc h hco hgen hk hcell

theorem isStr_self (t : Tok) : (Value.str name t).isStr name = true := by simp [Value.isStr]
theorem isStr_ne {k : Value} {y : Str} (hk : k.isStr name = true) (hy : y ≠ name) : k.isStr y = false := by
  cases k <;> simp_all [Value.isStr]
  exact fun e => hy e.symm
theorem refKey_str {hs : Int} {t : Tok} {u : Value} : DictEntry.refKey ⟨hs, .str name t, u⟩ = false := rfl
theorem refKey_of {e : DictEntry} {hs : Int} {u : Value} : DictEntry.refKey ⟨hs, e.key, u⟩ = e.refKey := by
  cases e with | mk h k v => cases k <;> rfl
theorem getL_put_self (hs : Int) (t : Tok) (u : Value) : ∀ es : List DictEntry, getL name (putL name hs (.str name t) u es) = some (some u)
  | [] => by simp [putL, getL, isStr_self]
  | e :: r => by
    have ih := getL_put_self hs t u r
    unfold putL
    cases h : e.key.isStr name with
    | true => simp [getL, h]
    | false =>
      simp only [Bool.false_eq_true, if_false]
      unfold getL at ih ⊢
      rw [List.find?_cons, h]
      revert ih
      cases (putL name hs (.str name t) u r).find? (·.key.isStr name) with
      | some e' => exact id
      | none =>
        intro ih
        split at ih <;> simp_all
theorem any_put (hs : Int) (t : Tok) (u : Value) : ∀ es : List DictEntry, (putL name hs (.str name t) u es).any (·.refKey) = es.any (·.refKey)
  | [] => by simp [putL, refKey_str]
  | e :: r => by
    unfold putL
    cases h : e.key.isStr name with
    | true => simp [refKey_of]
    | false => simp [any_put hs t u r]
theorem find_put {y : Str} (hy : y ≠ name) (hs : Int) (t : Tok) (u : Value) : ∀ es : List DictEntry, (putL name hs (.str name t) u es).find? (·.key.isStr y) = es.find? (·.key.isStr y)
  | [] => by simp [putL, isStr_ne (isStr_self t) hy]
  | e :: r => by
    unfold putL
    cases h : e.key.isStr name with
    | true => simp [isStr_ne h hy]
    | false => simp only [Bool.false_eq_true, if_false, List.find?_cons, find_put hy hs t u r]
theorem getL_put_ne {y : Str} (hy : y ≠ name) (hs : Int) (t : Tok) (u : Value) (es : List DictEntry) : getL y (putL name hs (.str name t) u es) = getL y es := by
  unfold getL
  rw [find_put hy, any_put]
theorem len_put (hs : Int) (key u : Value) : ∀ es : List DictEntry, (putL name hs key u es).length ≤ es.length + 1
  | [] => by simp [putL]
  | e :: r => by
    have := len_put hs key u r
    unfold putL
    split <;> simp <;> omega

theorem len_put_had {u' : Value} (hs : Int) (key u : Value) : ∀ {es : List DictEntry}, getL name es = some (some u') → (putL name hs key u es).length = es.length
  | [], h => by simp [getL] at h
  | e :: r, h => by
    unfold putL
    cases q : e.key.isStr name with
    | true => simp
    | false =>
      simp only [Bool.false_eq_true, if_false, List.length_cons]
      refine congrArg (· + 1) (len_put_had hs key u (u' := u') ?_)
      unfold getL at h ⊢
      rw [List.find?_cons, q] at h
      revert h
      cases r.find? (·.key.isStr name) with
      | some e' => exact id
      | none => dsimp only; intro h; split at h <;> cases h
/-- the two dicts part at one name alone -/
structure Sm (k : Str) (es' es : List DictEntry) : Prop where
  at_ : ∀ y, y ≠ k → getL y es' = getL y es
/-- what a dict of an object is known to hold: no name beside ks -/
structure Dk (ks : List Str) (b : Nat) (es : List DictEntry) : Prop where
  le : es.length ≤ b
  off : ∀ y, ks.contains y = false → getL y es = some none
theorem Dk.put {ks : List Str} {b : Nat} {u' : Value} (h : Dk ks b es) (hl : getL name es = some (some u')) (hs : Int) (t : Tok) (u : Value) : Dk ks b (putL name hs (.str name t) u es) := by
  refine ⟨by rw [len_put_had _ _ _ hl]; exact h.le, fun y hy => ?_⟩
  by_cases e : y = name
  · subst e
    rw [h.off _ hy] at hl
    cases hl
  · rw [getL_put_ne e]; exact h.off y hy
/-- a store into an object whose dict is a letter -/
theorem set_sym {ks : List Str} {b : Nat} {u' : Value} {nf : List DictEntry → Nat → List (Addr × Obj)} {Q : Unit → Shared → Prop} (F : Fr h₀ L s.heap m) (X₀ : K.In h₀) (N : News h₀ L s.heap news) (I : InstAt s.heap x ox C (some (dictOf es n))) (hd : ox.dict = some dx)
    (hs : findIn K (.ref C) "__setattr__" = some (some (.builtin "object.__setattr__"))) (hp : plainOver K C = true) (ht : takerIn K C name = some none) (hh : hasDictIn K C = true) (hl : getL name es = some (some u'))
    (hb : Dk ks b es) (hbl : b ≤ 1000) (U : ∀ es' n', Upd dx (dictOf es n) (dictOf es' n') news (nf es' n'))
    (h : ∀ h' es' n', Fr h₀ L h' m → News h₀ L h' (nf es' n') → getL name es' = some (some v) → Sm name es' es → Dk ks b es' → Q () { s with heap := h', toks := s.toks + 2 }) :
    wpAny (model prog w) A (setAttr (.ref x) name v) Q E s :=
  set_dict F X₀ N I hd hs hp ht hh (by rw [hl]; rfl) rfl (U _ _) (by rw [len_put_had _ _ _ hl]; have := hb.le; omega)
    fun h' F' N' => h h' _ _ F' N' (getL_put_self _ _ _ _) ⟨fun y hy => getL_put_ne hy _ _ _ _⟩ (hb.put hl _ _ _)
/-- a store into a list at a place in it -/
theorem item_set {D : Addr} {vs : List Value} {k : Int} {tk : Tok} {nn : Nat} {Q : Unit → Shared → Prop} (F : Fr h₀ L s.heap m) (N : News h₀ L s.heap news) (U : Upd D (W.listOf vs.toArray nn) (W.listOf (vs.set k.toNat v).toArray nn) news news') (h0 : 0 ≤ k) (h1 : k < vs.length) (hfit : k < 2 ^ 63)
    (h : ∀ h', Fr h₀ L h' m → News h₀ L h' news' → Q () { s with heap := h' }) : wpAny (model prog w) A (setItem (.ref D) (.int k tk) v) Q E s := by
  obtain ⟨pre, post, rfl, rfl, a, b⟩ := U.split
  have z := N (D, W.listOf vs.toArray nn) (by simp)
  refine ki_setAt z.1 h0 hfit (by simpa using h1) (h _ (F.change (Heap.SameBut.update ..) z.2.1 z.2.2) (ki_turn _ N a b ?_ (by simp)))
  show vs.toArray.setIfInBounds k.toNat v = (vs.set k.toNat v).toArray
  simp
/-- an item of a list at a place in it -/
theorem item_at {value slice : PySem.Expr} {D : Addr} {vs : List Value} {k : Int} {tk : Tok} {nn : Nat} {Q : Value → Shared → Prop} (N : News h₀ L s.heap news) (hm : (D, W.listOf vs.toArray nn) ∈ news) (h0 : 0 ≤ k) (hfit : k < 2 ^ 63) (hx : vs[k.toNat]? = some v) (h : Q v s)
    (hs : subscripted slice false (.ref D) (.int k tk) = operate [.ref D, .int k tk] (getItem (.ref D) (.int k tk)) := by with_unfolding_all rfl) : wpAny (model prog w) A (subscriptTail value slice (.ref D) (.int k tk)) Q E s :=
  have hl : s.heap.IsList D vs.toArray := ⟨_, (N _ hm).1, rfl, nn, rfl⟩
  tail_any hl.typeIs slot_list_getitem.lookup (wpAny_getItem_list hl h0 hfit (by simpa using hx) h) hs
/-- some entries of a ledger ahead, the rest apart from them -/
theorem news_split {h : Heap} (N : News h₀ L h news) (fr : List (Addr × Obj)) (hf : ∀ q ∈ fr, q ∈ news) : ∃ rest, OwnOff rest (fr.map (·.1)) ∧ News h₀ L h (fr ++ rest) ∧ ∀ q ∈ news, q ∈ fr ++ rest := by
  refine ⟨news.filter (fun q => decide (q.1 ∉ fr.map (·.1))), ?_, ?_, ?_⟩
  · intro q hq c hc e
    exact of_decide_eq_true (List.mem_filter.mp hq).2 (e ▸ hc)
  · intro q hq
    rcases List.mem_append.mp hq with hq | hq
    · exact N _ (hf _ hq)
    · exact N _ (List.mem_filter.mp hq).1
  · intro q hq
    by_cases h1 : q.1 ∈ fr.map (·.1)
    · obtain ⟨q', hq', e⟩ := List.mem_map.mp h1
      have h2 := (N _ (hf _ hq')).1
      rw [e, (N _ hq).1] at h2
      have : q = q' := Prod.ext e.symm (Option.some.inj h2)
      exact List.mem_append.mpr (.inl (this ▸ hq'))
    · exact List.mem_append.mpr (.inr (List.mem_filter.mpr ⟨hq, decide_eq_true h1⟩))
/-- the members of a ledger of which one object is turned -/
theorem upd_mem {d : Addr} {o o' : Obj} {l l' : List (Addr × Obj)} (U : Upd d o o' l l') : (d, o) ∈ l ∧ ∀ q ∈ l', q = (d, o') ∨ (q ∈ l ∧ q.1 ≠ d) := by
  obtain ⟨pre, post, rfl, rfl, a, b⟩ := U.split
  refine ⟨by simp, fun q hq => ?_⟩
  rcases List.mem_append.mp hq with hq | hq
  · exact .inr ⟨by simp [hq], a q hq⟩
  rcases List.mem_cons.mp hq with rfl | hq
  · exact .inl rfl
  · exact .inr ⟨by simp [hq], b q hq⟩
theorem news_upd1 {d : Addr} {o o' : Obj} {l l' rest : List (Addr × Obj)} {h : Heap} (N : News h₀ L h ((d, o') :: rest)) (U : Upd d o o' l l') (hr : ∀ q ∈ l, q ∈ (d, o) :: rest) : News h₀ L h l' := fun q hq => by
  rcases (upd_mem U).2 q hq with rfl | ⟨h1, h2⟩
  · exact N _ (.head _)
  · rcases List.mem_cons.mp (hr q h1) with rfl | h3
    · exact absurd rfl h2
    · exact N _ (.tail _ h3)
theorem news_upd2 {d e : Addr} {o o' oe oe' : Obj} {l l' l'' rest : List (Addr × Obj)} {h : Heap} (N : News h₀ L h ((d, o') :: (e, oe') :: rest)) (U : Upd d o o' l l') (U2 : Upd e oe oe' l' l'') (hr : ∀ q ∈ l, q ∈ (d, o) :: (e, oe) :: rest) : News h₀ L h l'' := fun q hq => by
  rcases (upd_mem U2).2 q hq with rfl | ⟨h1, h2⟩
  · exact N _ (.tail _ (.head _))
  rcases (upd_mem U).2 q h1 with rfl | ⟨h3, h4⟩
  · exact N _ (.head _)
  · rcases List.mem_cons.mp (hr q h3) with rfl | h5
    · exact absurd rfl h4
    rcases List.mem_cons.mp h5 with rfl | h6
    · exact absurd rfl h2
    · exact N _ (.tail _ (.tail _ h6))
theorem news_sub {l l' : List (Addr × Obj)} {h : Heap} (N : News h₀ L h l) (hs : ∀ q ∈ l', q ∈ l) : News h₀ L h l' := fun q hq => N q (hs q hq)
/-- two objects of unlike kinds lie apart -/
theorem news_apart {h : Heap} {b c : Addr} {ob oc : Obj} (N : News h₀ L h news) (hb : (b, ob) ∈ news) (hc : (c, oc) ∈ news) (hne : ob ≠ oc) : @Ne Nat b c := by
  rintro rfl
  have h1 := (N _ hb).1
  rw [(N _ hc).1] at h1
  exact hne (Option.some.inj h1).symm
end

theorem ints_no_ref {vs : List Value} {ns : List Int} {r : Addr} {xs : List Value} {n k : Nat} (hi : IntsAre vs ns) : (W.listOf vs.toArray n) ≠ W.listOf (.ref r :: xs).toArray k := fun e => by
  injection e with _ _ e _
  injection e with e _
  have e2 : vs = .ref r :: xs := by simpa using congrArg Array.toList e
  subst e2
  cases hi

theorem list_ne_dict {xs : Array Value} {k n : Nat} {es : List DictEntry} : W.listOf xs k ≠ dictOf es n := fun e => by
  have := congrArg Obj.data e
  cases this
theorem inst_ne_dict {C d : Addr} {n : Nat} {es : List DictEntry} : instObj C d ≠ dictOf es n := fun e => by
  have := congrArg Obj.data e
  cases this
theorem inst_ne_list {C d : Addr} {xs : Array Value} {k : Nat} : instObj C d ≠ W.listOf xs k := fun e => by
  have := congrArg Obj.data e
  cases this
/-- a member that another turned object is not stays -/
theorem mem_of_upd {d c : Addr} {o o' oc : Obj} {l l' : List (Addr × Obj)} (U : Upd d o o' l l') (hm : (c, oc) ∈ l') (hne : oc ≠ o') : (c, oc) ∈ l := by
  rcases (upd_mem U).2 _ hm with h | h
  · exact absurd (Prod.mk.inj h).2 hne
  · exact h.1
theorem all3 {l : List (Addr × Obj)} {a b c : Addr × Obj} (h1 : a ∈ l) (h2 : b ∈ l) (h3 : c ∈ l) : ∀ q ∈ [a, b, c], q ∈ l := List.forall_mem_cons.mpr ⟨h1, List.forall_mem_cons.mpr ⟨h2, List.forall_mem_cons.mpr ⟨h3, List.forall_mem_nil _⟩⟩⟩
theorem all4 {l : List (Addr × Obj)} {a b c d : Addr × Obj} (h1 : a ∈ l) (h2 : b ∈ l) (h3 : c ∈ l) (h4 : d ∈ l) : ∀ q ∈ [a, b, c, d], q ∈ l := List.forall_mem_cons.mpr ⟨h1, all3 h2 h3 h4⟩

noncomputable def thrKeys : List Str := ["number", "mark", "size", "glob", "state", "stack", "top", "frames", "open_upvals", "status", "globals", "ccalls", "base_ccalls", "handling", "is_over", "answers", "resumer", "yielded", "error"]
noncomputable def upvKeys : List Str := ["number", "mark", "size", "thread", "index", "value"]
noncomputable def plhKeys : List Str := ["last_number", "total"]
noncomputable def glbKeys : List Str := ["limits", "vm", "heap", "registry", "main", "metas", "panic", "out", "steps", "last_number"]

/-- a goal at which the walk is to stand -/
noncomputable def Stop (P : Prop) : Prop := P
theorem Stop.out {P : Prop} (h : Stop P) : P := h
theorem Stop.on {P : Prop} (h : P) : Stop P := h
structure StopHere : Prop where
structure StopComp : Prop where
theorem all2 {l : List (Addr × Obj)} {a b : Addr × Obj} (h1 : a ∈ l) (h2 : b ∈ l) : ∀ q ∈ [a, b], q ∈ l := List.forall_mem_cons.mpr ⟨h1, List.forall_mem_cons.mpr ⟨h2, List.forall_mem_nil _⟩⟩
theorem news_new2 {h₀ : Heap} {L d : Addr} {o o' : Obj} {a1 a2 : Addr × Obj} {l l' rest : List (Addr × Obj)} {h : Heap} (N : News h₀ L h (a1 :: a2 :: (d, o') :: rest)) (U : Upd d o o' l l') (hr : ∀ q ∈ l, q ∈ (d, o) :: rest) : News h₀ L h (a1 :: a2 :: l') := fun q hq => by
  rcases List.mem_cons.mp hq with rfl | hq
  · exact N _ (.head _)
  rcases List.mem_cons.mp hq with rfl | hq
  · exact N _ (.tail _ (.head _))
  · exact news_upd1 (fun q hq => N q (.tail _ (.tail _ hq))) U hr q hq
theorem mem_upd {d c : Addr} {o o' oc : Obj} {l l' : List (Addr × Obj)} (U : Upd d o o' l l') (hm : (c, oc) ∈ l) (hne : @Ne Nat c d) : (c, oc) ∈ l' := by
  obtain ⟨pre, post, rfl, rfl, a, b⟩ := U.split
  rcases List.mem_append.mp hm with h | h
  · exact List.mem_append.mpr (.inl h)
  rcases List.mem_cons.mp h with h | h
  · exact absurd (Prod.mk.inj h).1 hne
  · exact List.mem_append.mpr (.inr (.tail _ h))
theorem dict_ne {ks : List Str} {b n1 n2 : Nat} {k : Str} {v : Value} {e1 e2 : List DictEntry} (h1 : getL k e1 = some (some v)) (h2 : Dk ks b e2) (hk : ks.contains k = false) : dictOf e1 n1 ≠ dictOf e2 n2 := fun e => by
  have e3 := congrArg Obj.data e
  injection e3 with e3 _
  have e4 : e1 = e2 := by simpa using congrArg Array.toList e3
  rw [e4, h2.off _ hk] at h1
  cases h1
theorem memOf {α : Type} {a : α} {l : List α} (h : a ∈ l) : List.Mem a l := h
theorem mem_off {c d : Addr} {o o' : Obj} {l : List (Addr × Obj)} (h : (c, o) ∈ (d, o') :: l) (hne : @Ne Nat c d) : (c, o) ∈ l := by
  rcases List.mem_cons.mp h with h | h
  · exact absurd (Prod.mk.inj h).1 hne
  · exact h
/-- an open variable as it lies: the object, its dict, its place -/
structure U where
  x : Addr
  dx : Addr
  eu : List DictEntry
  n : Nat
  i : Int
  tk : Tok
structure U.Ok (news : List (Addr × Obj)) (t : Addr) (r : U) : Prop where
  obj : (r.x, instObj 221 r.dx) ∈ news
  dic : (r.dx, dictOf r.eu r.n) ∈ news
  dk : Dk upvKeys 900 r.eu
  idx : getL "index" r.eu = some (some (.int r.i r.tk))
  thr : getL "thread" r.eu = some (some (.ref t))
  val : ∃ v, getL "value" r.eu = some (some v)
theorem U.Ok.mono {news news' : List (Addr × Obj)} {t : Addr} {r : U} (h : r.Ok news t) (hs : ∀ q ∈ news, q ∈ news') : r.Ok news' t := ⟨hs _ h.obj, hs _ h.dic, h.dk, h.idx, h.thr, h.val⟩
noncomputable def refsU (ul : List U) : List Value := ul.map fun r => .ref r.x
theorem refsU_len (ul : List U) : (refsU ul).length = ul.length := by simp [refsU]
theorem refsU_at {ul : List U} {k : Nat} (h : k < ul.length) : (refsU ul)[k]? = some (.ref (ul[k].x)) := by simp [refsU, h]
/-- the first place whose variable is not above i -/
noncomputable def spotN : List U → Int → Nat
  | [], _ => 0
  | r :: l, i => if r.i > i then spotN l i + 1 else 0
theorem spotN_le : ∀ (ul : List U) (i : Int), spotN ul i ≤ ul.length
  | [], _ => Nat.le_refl _
  | r :: l, i => by
    unfold spotN
    have := spotN_le l i
    split <;> simp <;> omega
theorem spotN_up : ∀ {ul : List U} {i : Int} {k : Nat} (h : k < ul.length), k ≤ spotN ul i → ul[k].i > i → k + 1 ≤ spotN ul i
  | r :: l, i, 0, _, _, g => by
    unfold spotN
    rw [if_pos (by simpa using g)]
    omega
  | r :: l, i, k + 1, h, le, g => by
    unfold spotN at le ⊢
    split at le
    · rename_i q
      rw [if_pos q]
      have := spotN_up (ul := l) (i := i) (k := k) (by simpa using h) (by omega) (by simpa using g)
      omega
    · omega
theorem spotN_end : ∀ {ul : List U} {i : Int} {k : Nat} (h : k < ul.length), k ≤ spotN ul i → ¬ ul[k].i > i → k = spotN ul i
  | r :: l, i, 0, _, _, g => by
    unfold spotN
    rw [if_neg (by simpa using g)]
  | r :: l, i, k + 1, h, le, g => by
    unfold spotN at le ⊢
    split at le
    · rename_i q
      rw [if_pos q]
      have := spotN_end (ul := l) (i := i) (k := k) (by simpa using h) (by omega) (by simpa using g)
      omega
    · omega
theorem nthU {ul : List U} {k : Nat} {r : U} (h : ul[k]? = some r) : (refsU ul)[((k : Nat) : Int).toNat]? = some (.ref r.x) := by
  simp [refsU, h]
theorem spot_up {ul : List U} {i : Int} {k : Nat} {r : U} (h : ul[k]? = some r) (le : k ≤ spotN ul i) (g : r.i > i) : k + 1 ≤ spotN ul i := by
  obtain ⟨hk, rfl⟩ := List.getElem?_eq_some_iff.mp h
  exact spotN_up hk le g
theorem spot_end {ul : List U} {i : Int} {k : Nat} {r : U} (h : ul[k]? = some r) (le : k ≤ spotN ul i) (g : ¬ r.i > i) : k = spotN ul i := by
  obtain ⟨hk, rfl⟩ := List.getElem?_eq_some_iff.mp h
  exact spotN_end hk le g

noncomputable def keysIn (ks : List Str) (es : List DictEntry) : Bool := es.all fun e => match e.key with | .str x _ => ks.contains x | _ => false
theorem Dk.of_keys {ks : List Str} {b : Nat} {es : List DictEntry} (h : keysIn ks es = true) (hl : es.length ≤ b) : Dk ks b es := by
  refine ⟨hl, fun y hy => ?_⟩
  have h' := List.all_eq_true.mp h
  have h1 : es.find? (·.key.isStr y) = none := by
    refine List.find?_eq_none.mpr fun e he hk => ?_
    have := h' e he
    revert this hk
    cases e.key <;> simp [Value.isStr]
    intro h1 h2
    subst h1
    simp at hy
    exact hy h2
  have h2 : es.any (·.refKey) = false := by
    refine List.any_eq_false.mpr fun e he hk => ?_
    have := h' e he
    revert this hk
    obtain ⟨hs, k, v⟩ := e
    cases k <;> simp [DictEntry.refKey]
  unfold getL
  rw [h1, h2]
  rfl
noncomputable def insU (ul : List U) (k : Nat) (r : U) : List U := ul.take k ++ r :: ul.drop k
theorem insU_refs {ul : List U} {k : Nat} {r : U} (h : k ≤ ul.length) : kl_ins (refsU ul).toArray.toList ((k : Nat) : Int) (.ref r.x) = refsU (insU ul k r) := by
  have h1 : ¬ ((k : Nat) : Int) < 0 := by omega
  unfold kl_ins insU
  rw [if_neg h1]
  have h2 : min (((k : Nat) : Int).toNat) (refsU ul).toArray.toList.length = k := by simp [refsU]; omega
  rw [h2]
  simp [refsU]
theorem insU_mem {ul : List U} {k : Nat} {r q : U} : q ∈ insU ul k r ↔ q = r ∨ q ∈ ul := by
  unfold insU
  rw [List.mem_append, List.mem_cons]
  constructor
  · rintro (h | h | h)
    · exact .inr (List.mem_of_mem_take h)
    · exact .inl h
    · exact .inr (List.mem_of_mem_drop h)
  · rintro (h | h)
    · exact .inr (.inl h)
    · rw [← List.take_append_drop k ul] at h
      rcases List.mem_append.mp h with h | h
      · exact .inl h
      · exact .inr (.inr h)
theorem insU_len {ul : List U} {k : Nat} {r : U} (h : k ≤ ul.length) : (insU ul k r).length = ul.length + 1 := by
  unfold insU; simp; omega
/-- the state at the head of a turn -/
noncomputable def MyJ {σ : Type} (Led : σ → List (Addr × Obj)) (ps : σ → List (Str × Value)) (x : Str) (stored : List Str) (m₀ : Str → Option Value) (P : Nat → σ → Prop) (i : Nat) (m : Str → Option Value) (nx : List (Addr × Obj)) : Prop :=
  ∃ c : σ, nx = Led c ∧ (∀ p ∈ ps c, m p.1 = some p.2) ∧ (∀ z, z ≠ x → (∀ p ∈ ps c, z ≠ p.1) → stored.contains z = false → m z = m₀ z) ∧ P i c
noncomputable def MyEnd (h₀ : Heap) (L I : Addr) (oI : Obj) (J : (Str → Option Value) → List (Addr × Obj) → Prop) (s₁ s₂ : Shared) : Prop :=
  ∃ h' tk m' nx, s₂ = { s₁ with heap := h', toks := tk } ∧ Fr h₀ L h' m' ∧ News h₀ L h' ((I, oI) :: nx) ∧ (∀ p ∈ nx, p.1 ≠ I) ∧ J m' nx
noncomputable def MyPost (h₀ : Heap) (L I : Addr) (oI : Obj) (J : (Str → Option Value) → List (Addr × Obj) → Prop) (s₁ : Shared) (Q : Flow → Shared → Prop) (f : Flow) (s₂ : Shared) : Prop :=
  match f with
  | .ret v => Q (.ret v) s₂
  | .brk => Q .next s₂
  | _ => MyEnd h₀ L I oI J s₁ s₂
section
variable {prog : Program} {w : World} {A : Around} {E : Value → Shared → Prop} {s : Shared} {env : Env} {h₀ : Heap} {x : Str} {body : List Stmt} {Q : Flow → Shared → Prop}
theorem my_end {σ : Type} {Led : σ → List (Addr × Obj)} {ps : σ → List (Str × Value)} {stored : List Str} {m₀ : Str → Option Value} {P : Nat → σ → Prop} {i : Nat} {L I : Addr} {oI : Obj} {m' : Str → Option Value} {news' : List (Addr × Obj)} {s₁ : Shared} {h' : Heap} {tk : Nat} (c : σ)
    (F : Fr h₀ L h' m') (N : News h₀ L h' news') (hI : (I, oI) ∈ news') (hn : ∀ p ∈ Led c, p ∈ news' ∧ p.1 ≠ I) (hk : ∀ p ∈ ps c, m' p.1 = some p.2) (hr : ∀ z, z ≠ x → (∀ p ∈ ps c, z ≠ p.1) → stored.contains z = false → m' z = m₀ z) (hp : P i c) :
    MyPost h₀ L I oI (MyJ Led ps x stored m₀ P i) s₁ Q .next { s₁ with heap := h', toks := tk } :=
  ⟨h', tk, m', Led c, rfl, F, fun p hp => (List.mem_cons.mp hp).elim (fun e => e ▸ N _ hI) (fun h => N _ (hn p h).1), fun p h => (hn p h).2, c, rfl, hk, hr, hp⟩
theorem for_list {σ : Type} {l : Addr} {vs : List Value} {nn : Nat} {m₀ : Str → Option Value} {L : Addr} (hL : env.locals = L) (Led : σ → List (Addr × Obj)) (ps : σ → List (Str × Value)) (stored : List Str) (P : Nat → σ → Prop) (c₀ : σ)
    (hh : A.handled = none) (hl : ∀ i c, P i c → (l, listOf vs.toArray nn) ∈ Led c) (F : Fr h₀ L s.heap m₀) (N : News h₀ L s.heap (Led c₀)) (hk : ∀ p ∈ ps c₀, m₀ p.1 = some p.2) (hp : P 0 c₀)
    (turn : ∀ (c : σ) i v I oI (u : Str → Option Value) h tk, vs[i]? = some v → P i c → (∀ p ∈ Led c, p.1 ≠ I) →
      Fr h₀ L h (fun y => if y = x then some v else kstB (fun z => if stored.contains z then u z else m₀ z) (ps c) y) → News h₀ L h ((I, oI) :: Led c) →
      wpAny (model prog w) A (execs body env) (MyPost h₀ L I oI (MyJ Led ps x stored m₀ P (i + 1)) { s with heap := h, toks := tk } Q) E { s with heap := h, toks := tk })
    (done : ∀ (c : σ) (u : Str → Option Value) h tk, P vs.length c → Fr h₀ L h (fun y => if y = x then u y else kstB (fun z => if stored.contains z then u z else m₀ z) (ps c) y) → News h₀ L h (Led c) → Q .next { s with heap := h, toks := tk }) :
    wpAny (model prog w) A (pyIter (.ref l)) (fun it s₂ => LoopAtV prog w A h₀ env x body Q E it s₂) E s := by
  subst hL
  have hl0 := hl _ _ hp
  have hol : s.heap.get? l = some (listOf vs.toArray nn) := (N _ hl0).1
  have hls : s.heap.IsList l vs.toArray := ⟨_, hol, rfl, nn, rfl⟩
  have hne : l ≠ s.heap.objs.size := Nat.ne_of_lt (Heap.lt_size hol)
  refine wpAny_pyIter_list hls ?_
  have W := Walks.list (prog := prog) (w := w) hh s.heap.objs.size l hne vs.toArray
  have hlen : vs.toArray.size = vs.length := by simp
  rw [hlen] at W
  refine ⟨_, _, _, vs.length, _, _, m₀, Led c₀, (fun i m nx => (∀ p ∈ nx, p.1 ≠ s.heap.objs.size) ∧ MyJ Led ps x stored m₀ P i m nx), rfl, W, ?_, ?_, ?_, ⟨⟨_, Heap.get?_push_size _ rfl, rfl, rfl⟩, hls.at fun o e => Heap.get?_push_of_some _ e⟩, F.push _, (fun p hp => ⟨Heap.get?_push_of_some _ (N p hp).1, (N p hp).2⟩), ⟨?_, c₀, rfl, hk, fun _ _ _ _ => rfl, hp⟩, ?_, ?_⟩
  · intro hm
    rcases List.mem_cons.mp hm with e | hm
    · exact absurd F.ns.lt (e ▸ Nat.lt_irrefl _)
    · exact (N _ hl0).2.1 ((List.mem_singleton.mp hm).symm)
  · intro b hb
    rw [List.mem_singleton.mp hb]
    exact next_is_new F
  · intro p hp hI
    exact absurd (Heap.lt_size (N p hp).1) ((List.mem_singleton.mp hI) ▸ Nat.lt_irrefl _)
  · intro p hp hI
    exact absurd (Heap.lt_size (N p hp).1) (hI ▸ Nat.lt_irrefl _)
  · rintro i v m₁ news₁ s₁ own ⟨hh', tk', rfl⟩ hin hP ⟨hoff, c, rfl, h1, h2, hp'⟩ - hown hget hfp hSt F₁ N₁
    obtain ⟨⟨oI, hoI, _⟩, _⟩ := hSt
    have hIo : (s.heap.objs.size, oI) ∈ own := hfp _ (.head _) (next_is_new F) _ hoI
    have hv : vs[i]? = some v := by simpa using hP
    have hl1 := hl _ _ hp'
    have hlo : hh'.get? l = some (listOf vs.toArray nn) := (N₁ _ (List.mem_append.mpr (.inr hl1))).1
    have N₂ : News h₀ env.locals hh' ((s.heap.objs.size, oI) :: Led c) := fun p hp => (List.mem_cons.mp hp).elim (fun e => e ▸ N₁ _ (List.mem_append.mpr (.inl hIo))) fun h => N₁ _ (List.mem_append.mpr (.inr h))
    refine wpAny_mono (turn c i v _ oI m₁ hh' tk' hv hp' hoff (kst_fr h1 h2 F₁) N₂) (fun f s₂ p => ?_) fun _ _ x => x
    have fin : MyEnd h₀ env.locals s.heap.objs.size oI (MyJ Led ps x stored m₀ P (i + 1)) { s with heap := hh', toks := tk' } s₂ →
        LoopStepU h₀ env.locals [s.heap.objs.size] own (fun m nx => (∀ p ∈ nx, p.1 ≠ s.heap.objs.size) ∧ MyJ Led ps x stored m₀ P (i + 1) m nx) { s with heap := hh', toks := tk' } .next s₂ := by
      rintro ⟨h', tk, m', nx, e, F', N', ha, hJ⟩
      refine ⟨rfl, h', tk, m', nx, e, F', fun p hp => ?_, fun p hp hI => ha p hp (List.mem_singleton.mp hI), ha, hJ⟩
      rcases List.mem_append.mp hp with hp | hp
      · have g := hget p hp
        dsimp only at g
        rcases List.mem_cons.mp (hown p hp) with e1 | e1
        · have e2 : p = (s.heap.objs.size, oI) := Prod.ext e1 (Option.some.inj (by rw [← g, e1]; exact hoI))
          exact e2 ▸ N' _ (.head _)
        · have e1 := List.mem_singleton.mp e1
          have e2 : p = (l, listOf vs.toArray nn) := Prod.ext e1 (Option.some.inj (by rw [← g, e1]; exact hlo))
          obtain ⟨c', rfl, _, _, hp2⟩ := hJ
          exact e2 ▸ N' _ (.tail _ (hl _ _ hp2))
      · exact N' _ (.tail _ hp)
    cases f with
    | ret v => exact .ret p
    | brk => exact .brk p
    | next => exact .next (fin p)
    | cont => exact .cont (fin p)
  · rintro h' tk m' news' F' N' - ⟨_, c, rfl, h1, h2, hp'⟩
    exact done c m' h' tk hp' (kst_frOut h1 h2 F') N'

theorem for_range {σ : Type} {r : Addr} {a₀ b₀ : Int} {t₀ u₀ v₀ : Tok} {n : Nat} {m₀ : Str → Option Value} {L : Addr} (hL : env.locals = L) (Led : σ → List (Addr × Obj)) (ps : σ → List (Str × Value)) (stored : List Str) (P : Nat → σ → Prop) (c₀ : σ)
    (hh : A.handled = none) (hr : IsRange s.heap r a₀ b₀ 1 t₀ u₀ v₀) (hsmall : Builtin.Range.small a₀ b₀ 1 = true) (hn : Builtin.Range.rangeSize a₀ b₀ 1 = (n : Int)) (F : Fr h₀ L s.heap m₀) (N : News h₀ L s.heap (Led c₀)) (hk : ∀ p ∈ ps c₀, m₀ p.1 = some p.2) (hp : P 0 c₀)
    (turn : ∀ (c : σ) i t I oI (u : Str → Option Value) h tk, i < n → P i c → (∀ p ∈ Led c, p.1 ≠ I) →
      Fr h₀ L h (fun y => if y = x then some (.int (a₀ + (i : Int)) t) else kstB (fun z => if stored.contains z then u z else m₀ z) (ps c) y) → News h₀ L h ((I, oI) :: Led c) →
      wpAny (model prog w) A (execs body env) (MyPost h₀ L I oI (MyJ Led ps x stored m₀ P (i + 1)) { s with heap := h, toks := tk } Q) E { s with heap := h, toks := tk })
    (done : ∀ (c : σ) (u : Str → Option Value) h tk, P n c → Fr h₀ L h (fun y => if y = x then u y else kstB (fun z => if stored.contains z then u z else m₀ z) (ps c) y) → News h₀ L h (Led c) → Q .next { s with heap := h, toks := tk }) :
    wpAny (model prog w) A (pyIter (.ref r)) (fun it s₂ => LoopAtV prog w A h₀ env x body Q E it s₂) E s := by
  subst hL
  refine wpAny_pyIter_range hr hsmall ?_
  have W : Walks prog w A s.heap.objs.size [s.heap.objs.size] [s.heap.objs.size] n (fun i v => i < n ∧ ∃ t, v = .int (a₀ + i * 1) t)
      (fun i h => IsRangeIter h s.heap.objs.size (a₀ + (i : Nat) * 1) ((n : Int) - (i : Nat)) 1) := (Walks.range hh _ a₀ 1 n).bound
  refine ⟨_, _, _, n, _, _, m₀, Led c₀, (fun i m nx => (∀ p ∈ nx, p.1 ≠ s.heap.objs.size) ∧ MyJ Led ps x stored m₀ P i m nx), rfl, W, ?_, ?_, ?_, (by show IsRangeIter _ _ _ _ _; rw [hn]; simpa using Heap.get?_push_size _ rfl), F.push _, (fun p hp => ⟨Heap.get?_push_of_some _ (N p hp).1, (N p hp).2⟩), ⟨?_, c₀, rfl, hk, fun _ _ _ _ => rfl, hp⟩, ?_, ?_⟩
  · intro hm
    exact absurd F.ns.lt ((List.mem_singleton.mp hm) ▸ Nat.lt_irrefl _)
  · intro b hb
    rw [List.mem_singleton.mp hb]
    exact next_is_new F
  · intro p hp hI
    exact absurd (Heap.lt_size (N p hp).1) ((List.mem_singleton.mp hI) ▸ Nat.lt_irrefl _)
  · intro p hp hI
    exact absurd (Heap.lt_size (N p hp).1) (hI ▸ Nat.lt_irrefl _)
  · rintro i v m₁ news₁ s₁ own ⟨hh', tk', rfl⟩ hin ⟨_, t, rfl⟩ ⟨hoff, c, rfl, h1, h2, hp'⟩ - hown hget hfp hSt F₁ N₁
    obtain ⟨oI, hoI⟩ : ∃ o, hh'.get? s.heap.objs.size = some o := ⟨_, hSt⟩
    have hIo := hfp _ (.head _) (next_is_new F) _ hoI
    have e1 : a₀ + (i : Int) * 1 = a₀ + (i : Int) := by omega
    rw [e1] at F₁
    have N₂ : News h₀ env.locals hh' ((s.heap.objs.size, oI) :: Led c) := fun p hp => (List.mem_cons.mp hp).elim (fun e => e ▸ N₁ _ (List.mem_append.mpr (.inl hIo))) fun h => N₁ _ (List.mem_append.mpr (.inr h))
    refine wpAny_mono (turn c i t _ oI m₁ hh' tk' hin hp' hoff (kst_fr h1 h2 F₁) N₂) (fun f s₂ p => ?_) fun _ _ x => x
    have fin : MyEnd h₀ env.locals s.heap.objs.size oI (MyJ Led ps x stored m₀ P (i + 1)) { s with heap := hh', toks := tk' } s₂ →
        LoopStepU h₀ env.locals [s.heap.objs.size] own (fun m nx => (∀ p ∈ nx, p.1 ≠ s.heap.objs.size) ∧ MyJ Led ps x stored m₀ P (i + 1) m nx) { s with heap := hh', toks := tk' } .next s₂ := by
      rintro ⟨h', tk, m', nx, e, F', N', ha, hJ⟩
      refine ⟨rfl, h', tk, m', nx, e, F', fun p hp => ?_, fun p hp hI => ha p hp (List.mem_singleton.mp hI), ha, hJ⟩
      rcases List.mem_append.mp hp with hp | hp
      · have g := hget p hp
        dsimp only at g
        have e1 := List.mem_singleton.mp (hown p hp)
        have e2 : p = (s.heap.objs.size, oI) := Prod.ext e1 (Option.some.inj (by rw [← g, e1]; exact hoI))
        exact e2 ▸ N' _ (.head _)
      · exact N' _ (.tail _ hp)
    cases f with
    | ret v => exact .ret p
    | brk => exact .brk p
    | next => exact .next (fin p)
    | cont => exact .cont (fin p)
  · rintro h' tk m' news' F' N' - ⟨_, c, rfl, h1, h2, hp'⟩
    exact done c m' h' tk hp' (kst_frOut h1 h2 F') N'
theorem for_invF {E : Value → Shared → Prop} {Q : Flow → Shared → Prop} {x : Str} {px pos : Pos} {iter : Expr} {body : List Stmt} {L : Addr} {m : Str → Option Value} (_F : Fr h₀ L s.heap m) (_hL : env.locals = L) (hx : env.kindOf x = some .local)
    (hp : (env.scope.kind == .class || (env.scope.kind == .module && env.locals != env.globals)) = false)
    (h : wpAny (model prog w) A (eval iter env) (fun xv s₁ => wpAny (model prog w) A (pyIter xv) (fun it s₂ => LoopAtV prog w A h₀ env x body Q E it s₂) E s₁) E s)
    (hs : ∀ x, foldedSetIterable iter env x = pure x := by intro _; rfl)
    (hE : PassesOwn (model prog w) A env E := by passes_own) :
    wpAny (model prog w) A (exec (.For (.Name x px) iter body [] pos) env) Q E s := For_invV h₀ hx hp h hs hE
theorem range_size {a b : Int} (h : a ≤ b) : Builtin.Range.rangeSize a b 1 = ((b - a).toNat : Int) := by
  unfold Builtin.Range.rangeSize
  rw [if_pos (by omega)]
  split <;> omega
theorem range_small {a b : Int} (h0 : 0 ≤ a) (h1 : a ≤ b) (h2 : b < 1000) : Builtin.Range.small a b 1 = true := by
  unfold Builtin.Range.small
  rw [range_size h1]
  unfold Builtin.Range.rangeFitsLong
  simp
  omega
end
section bytes
open Builtin
/-- the first place of a run of octets, or -1 -/
noncomputable def fndB (b c : Array UInt8) : Int := match Bytes.find? b c 0 b.size with | some i => (i : Int) | none => -1
theorem bf_slot : Slot "bytes" "find" "bytes.find" :=
  .of (owner := "bytes") (n := "find") (by rw [typeLookup_type, builtinLookup_eq_fast]; kernel_rfl) (by decide +kernel) (by decide +kernel) (by decide +kernel)
    (by first | exact .inl (by decide +kernel) | exact .inr (by decide +kernel)) (by rw [isSubtype_type]; kernel_rfl)
theorem bf_entry : entryFor table "bytes.find" = some Builtin.«bytes.find» := by first | exact entryFor_of_tree (by kernel_rfl) | exact entryFor_of_fast (by kernel_rfl)
theorem bf_args (a b : Value) : argsOk "bytes.find" ⟨[a, b], []⟩ := by
  unfold argsOk; rw [signature?_of (id := "bytes.find") (n := ['d', 'n', 'i', 'f']) (o := ['s', 'e', 't', 'y', 'b']) (by kernel_rfl) FB.owner_bytes]; kernel_rfl
theorem bc_slot : Slot "bytes" "__contains__" "bytes.__contains__" :=
  .of (owner := "bytes") (n := "__contains__") (by rw [typeLookup_type, builtinLookup_eq_fast]; kernel_rfl) (by decide +kernel) (by decide +kernel) (by decide +kernel)
    (by first | exact .inl (by decide +kernel) | exact .inr (by decide +kernel)) (by rw [isSubtype_type]; kernel_rfl)
theorem bc_entry : entryFor table "bytes.__contains__" = some Builtin.«bytes.__contains__» := by first | exact entryFor_of_tree (by kernel_rfl) | exact entryFor_of_fast (by kernel_rfl)
theorem bc_args (a b : Value) : argsOk "bytes.__contains__" ⟨[a, b], []⟩ := by
  unfold argsOk; rw [signature?_of (id := "bytes.__contains__") (n := ['_', '_', 's', 'n', 'i', 'a', 't', 'n', 'o', 'c', '_', '_']) (o := ['s', 'e', 't', 'y', 'b']) (by kernel_rfl) FB.owner_bytes]; kernel_rfl
variable {b c : Array UInt8} {t u : Tok}
theorem bf_window (n : Nat) : Bytes.window n none none = (0, (n : Int)) := by
  unfold Bytes.window
  have h : ¬ (n : Int) < 0 := by omega
  simp [h]
theorem bf_search : Bytes.searchArgs .bytes "find" ⟨[.bytes b t, .bytes c u], []⟩ = pure (b, c, if (Bytes.window b.size none none).2 - (Bytes.window b.size none none).1 < c.size then none else some ((Bytes.window b.size none none).1.toNat, (Bytes.window b.size none none).2.toNat)) := by
  show (Bytes.buffer? _ (.bytes c u) >>= fun r => _) = _
  rw [KBy.buffer_eq]
  rfl
theorem bf_short {b c : Array UInt8} (h : b.size < c.size) : fndB b c = -1 := by
  unfold fndB Bytes.find?
  rw [show b.size + 1 - (0 + c.size) = 0 by omega]
  rfl
theorem bf_gives : Gives («bytes.find» ⟨[.bytes b t, .bytes c u], []⟩) (.int (fndB b c)) := by
  refine .of_wp fun M A E s Q hq => ?_
  show wpAny M A (Bytes.searchArgs .bytes "find" ⟨[.bytes b t, .bytes c u], []⟩ >>= fun r => _) _ E s
  refine wpAny_bind (wpAny_of_eq bf_search ?_)
  rw [bf_window]
  dsimp only
  by_cases hc : c.size ≤ b.size
  · rw [if_neg (by omega)]
    unfold fndB at hq
    dsimp only [Option.bind]
    simp only [Bool.false_eq_true, if_false, Int.toNat_zero, Int.toNat_natCast]
    cases h : Bytes.find? b c 0 b.size with
    | some i =>
      rw [h] at hq
      dsimp only at hq ⊢
      exact wpAny_bind (wpAny_mkInt (wpAny_pure ⟨_, rfl, hq⟩))
    | none =>
      rw [h] at hq
      dsimp only at hq ⊢
      refine wpAny_bind (wpAny_rule ?_)
      exact wpAny_bind (wpAny_mkInt (wpAny_pure ⟨_, rfl, hq⟩))
  · rw [if_pos (by omega)]
    rw [bf_short (by omega)] at hq
    dsimp only [Option.bind]
    simp only [Bool.false_eq_true, if_false]
    refine wpAny_bind (wpAny_rule ?_)
    exact wpAny_bind (wpAny_mkInt (wpAny_pure ⟨_, rfl, hq⟩))
theorem bf_type : typeOf (.builtin "bytes.find") = pure (.type "method_descriptor") := by show builtinType _ = _; rw [builtinType_eq_fast]; kernel_rfl
theorem bf_method {M : Model} {A : Around} {E : Value → Shared → Prop} {s : Shared} {pl : Sem Bool} {Q : Value × List Value → Shared → Prop} (h : Q (.builtin "bytes.find", [.bytes b t]) s) : wpAny M A (getMethod (.bytes b t) "find" pl) Q E s := by
  with_reducible exact getMethod_builtin (typeIs_bytes _ _ _) FB.plainAttrs_bytes bf_slot bf_type (fun _ e => nomatch e) h
theorem bc_name : typeName (.type "bytes") = pure "bytes" := by first | rfl | kernel_rfl | (unfold typeName; kernel_rfl)
theorem bc_noindex : typeLookup (.type "bytes") "__index__" = pure none := by rw [typeLookup_type, builtinLookup_eq_fast]; kernel_rfl
section
variable {prog : Program} {w : World} {A : Around} {E : Value → Shared → Prop} {s : Shared}
theorem bc_cut {n : Nat} {Q : String → Shared → Prop} (h : Q "bytes" s) : wpAny (model prog w) A (typeNameOfCut n (.bytes c u)) Q E s := by
  unfold typeNameOfCut shownTypeOf
  refine wpAny_bind (wpAny_bind (wpAny_typeOf (typeIs_bytes _ c u) ?_))
  simp only [show (Value.type "bytes" == Value.type "builtin_function_or_method") = false by decide, Bool.false_eq_true, if_false]
  refine wpAny_pure ?_
  rw [show typeNameCut n (.type "bytes") = typeName (.type "bytes") from rfl, bc_name]
  exact wpAny_pure h
theorem bc_index {Q : Int → Shared → Prop} (hh : A.handled = none) (h : ∀ h' tk e, Heap.NewExc s.heap h' e "TypeError" → E (.ref e) { s with heap := h', toks := tk }) : wpAny (model prog w) A (asIndex (.bytes c u)) Q E s := by
  unfold asIndex
  refine wpAny_bind (wpAny_of_eq (a := none) rfl ?_)
  dsimp only
  refine wpAny_bind (wpAny_callSpecial?_none (T := "bytes") (typeIs_bytes s c u) bc_noindex ?_)
  dsimp only
  refine wpAny_bind (bc_cut ?_)
  exact wpAny_raiseErrorMade plainExc_TypeError hh h
noncomputable def bcSpec (b c : Array UInt8) : Around → (Result → Shared → Prop) → Shared → Prop := fun A R s => A.handled = none ∧ ∀ h' tk e, Heap.NewExc s.heap h' e "TypeError" → R (.ok (.ret (.bool (Bytes.find? b c 0 b.size).isSome))) { s with heap := h', toks := tk }
theorem bc_meets {b c : Array UInt8} {t u : Tok} : Meets («bytes.__contains__» ⟨[.bytes b t, .bytes c u], []⟩) (bcSpec b c) := fun prog w A R s h => by
  obtain ⟨hh, h⟩ := h
  show wpAny (model prog w) A.in1 (Bytes.containsIn "bytes.__contains__" (.bytes b t) (.bytes c u) >>= fun r => _) _ _ s
  unfold Bytes.containsIn
  refine wpAny_bind (wpAny_bind (wpAny_attempt (bc_index hh fun h' tk e x => ?_)))
  refine wpAny_bind (wpAny_of_eq KBy.buffer_eq ?_)
  dsimp only
  refine wpAny_bind (wpAny_of_eq KBy.buffer_eq ?_)
  dsimp only
  refine wpAny_bind (wpAny_rule ?_)
  exact wpAny_pure (wpAny_pure (h _ _ _ x))
theorem in_bytes {Q : Value → Shared → Prop} {h₀ : Heap} {L : Addr} {m : Str → Option Value} {news : List (Addr × Obj)} (hh : A.handled = none) (F : Fr h₀ L s.heap m) (N : News h₀ L s.heap news)
    (h : ∀ h' tk, Fr h₀ L h' m → News h₀ L h' news → Q (.bool (Bytes.find? b c 0 b.size).isSome) { s with heap := h', toks := tk }) : wpAny (model prog w) A (compareOp .In (.bytes c u) (.bytes b t)) Q E s := by
  show wpAny (model prog w) A (contains (.bytes b t) (.bytes c u) >>= fun r => _) Q E s
  refine wpAny_bind (wpAny_contains_slot (typeIs_bytes s b t) bc_slot (call_meets bc_slot (typeIs_bytes s b t) bc_entry (bc_args _ _) bc_meets ⟨hh, fun h' tk e x => ?_⟩))
  exact wpAny_of_eq (a := (Bytes.find? b c 0 b.size).isSome) rfl (wpAny_pure (h _ _ (F.keeps x.keeps) (N.grown x.keeps)))
theorem find_bytes {Q : Value → Shared → Prop} (h : ∀ tk k, Q (.int (fndB b c) tk) { s with toks := k }) : wpAny (model prog w) A (call (.builtin "bytes.find") [.bytes b t, .bytes c u]) Q E s :=
  call_gives bf_slot (typeIs_bytes s b t) bf_entry (bf_args _ _) bf_gives (h _ _)
end
theorem find_list {α : Type} [BEq α] (v : α) : ∀ l : List α, (List.range l.length).find? (fun i => l[i]? == some v) = l.findIdx? (· == v)
  | [] => rfl
  | a :: l => by
    have ih := find_list v l
    rw [List.length_cons, List.range_succ_eq_map, List.find?_cons, List.findIdx?_cons]
    have h0 : ((a :: l)[0]? == some v) = (a == v) := rfl
    rw [h0]
    cases (a == v) with
    | true => rfl
    | false =>
      rw [List.find?_map]
      simp only [Function.comp_def, List.getElem?_cons_succ]
      rw [ih]
      rfl
theorem find_congr {α : Type} {p q : α → Bool} : ∀ (l : List α), (∀ i ∈ l, p i = q i) → l.find? p = l.find? q
  | [], _ => rfl
  | a :: l, h => by
    rw [List.find?_cons, List.find?_cons, h a (.head _), find_congr l fun i hi => h i (.tail _ hi)]
theorem ext1 {b : Array UInt8} {i : Nat} (h : i < b.size) : b.extract i (i + 1) = #[b[i]] := by
  apply Array.ext
  · simp; omega
  · intro j h1 h2
    have : j = 0 := by simp at h2; omega
    subst this
    simp
theorem ext2 {b : Array UInt8} {v : UInt8} {i : Nat} (h : i < b.size) : (b.extract i (i + 1) == #[v]) = (b.toList[i]? == some v) := by
  rw [ext1 h]
  have : b.toList[i]? = some b[i] := by simp [h]
  rw [this]
  simp
theorem find1 {b : Array UInt8} {v : UInt8} : Bytes.find? b #[v] 0 b.size = b.toList.findIdx? (· == v) := by
  rw [← find_list]
  unfold Bytes.find?
  have e : b.size + 1 - (0 + #[v].size) = b.toList.length := by simp
  rw [e]
  have e2 : (List.range b.toList.length).map (· + 0) = List.range b.toList.length := by simp
  rw [e2]
  exact find_congr _ fun i hi => ext2 (by simpa using List.mem_range.mp hi)
theorem take_find {α : Type} [BEq α] (v : α) : ∀ l : List α, l.takeWhile (fun x => !(x == v)) = match l.findIdx? (· == v) with | some i => l.take i | none => l
  | [] => rfl
  | a :: l => by
    have ih := take_find v l
    rw [List.takeWhile_cons, List.findIdx?_cons]
    cases (a == v) with
    | true => rfl
    | false =>
      simp only [Bool.not_false, if_true, Bool.false_eq_true, if_false]
      rw [ih]
      cases l.findIdx? (· == v) with
      | none => rfl
      | some i => simp
noncomputable def cutB (b : Array UInt8) : Array UInt8 := if fndB b #[0] < 0 then b else KBy.picked b none (some (fndB b #[0]))
noncomputable def hasB (b : Array UInt8) (v : UInt8) : Bool := (Bytes.find? b #[v] 0 b.size).isSome
noncomputable def wkOf (b : Array UInt8) : Array UInt8 := (if hasB (cutB b) 107 = true then #[107] else #[]) ++ (if hasB (cutB b) 118 = true then #[118] else #[])
theorem u8_eq (x v : UInt8) : ((x.toNat : Int) == (v.toNat : Int)) = (x == v) := by
  rw [Bool.eq_iff_iff]
  simp only [beq_iff_eq]
  exact ⟨fun h => UInt8.toNat_inj.mp (by omega), fun h => by rw [h]⟩
theorem has_ints {b : Array UInt8} {v : UInt8} : hasB b v = (KBw.bInts b).contains (v.toNat : Int) := by
  unfold hasB
  rw [find1, List.findIdx?_isSome]
  show _ = (b.toList.map (fun x => (x.toNat : Int))).contains _
  induction b.toList with
  | nil => rfl
  | cons a l ih =>
    rw [List.any_cons, List.map_cons, List.contains_cons, ih]
    congr 1
    rw [← u8_eq, Bool.beq_comm]
theorem map_take_ne (l : List UInt8) : (l.map (fun x => (x.toNat : Int))).takeWhile (fun x => !(x == 0)) = (l.takeWhile (fun x => !(x == 0))).map (fun x => (x.toNat : Int)) := by
  induction l with
  | nil => rfl
  | cons a l ih =>
    rw [List.map_cons, List.takeWhile_cons, List.takeWhile_cons]
    have := u8_eq a 0
    rw [show (((0 : UInt8).toNat : Nat) : Int) = 0 from rfl] at this
    rw [this]
    cases (a == 0) <;> simp [ih]
theorem cut_ints {b : Array UInt8} {ks : List Int} (hk : KBw.bInts b = ks) : KBw.bInts (cutB b) = ks.takeWhile (fun x => !(x == 0)) := by
  subst hk
  have h1 : (KBw.bInts b).takeWhile (fun x => !(x == 0)) = (b.toList.takeWhile (fun x => !(x == 0))).map (fun x => (x.toNat : Int)) := map_take_ne _
  rw [h1, take_find]
  unfold cutB fndB
  rw [find1]
  cases h : b.toList.findIdx? (· == 0) with
  | none => rfl
  | some i =>
    simp only
    rw [if_neg (by omega)]
    rw [KBc.ints_picked rfl]
    have hl : i ≤ (KBw.bInts b).length := by
      rw [KBw.ints_length]
      have := List.findIdx?_eq_some_iff_getElem.mp h
      obtain ⟨h2, _⟩ := this
      simp at h2; omega
    show List.take (clipAt (KBw.bInts b).length (i : Int) - 0) (List.drop 0 (KBw.bInts b)) = _
    rw [clipAt_nat, Nat.sub_zero, List.drop_zero, Nat.min_eq_left hl]
    unfold KBw.bInts
    rw [List.map_take]
end bytes
/-- a tuple as it lies -/
noncomputable abbrev tupO (vs : List Value) (k : Nat) : Obj := { cls := .type "tuple", data := .seq vs.toArray k }
section
variable {prog : Program} {w : World} {A : Around} {E : Value → Shared → Prop} {s : Shared} {env : Env} {h₀ : Heap} {x : Str} {body : List Stmt} {Q : Flow → Shared → Prop}
theorem for_tup {σ : Type} {l : Addr} {vs : List Value} {nn : Nat} {m₀ : Str → Option Value} {L : Addr} (hL : env.locals = L) (Led : σ → List (Addr × Obj)) (ps : σ → List (Str × Value)) (stored : List Str) (P : Nat → σ → Prop) (c₀ : σ)
    (hh : A.handled = none) (hl : ∀ i c, P i c → (l, tupO vs nn) ∈ Led c) (F : Fr h₀ L s.heap m₀) (N : News h₀ L s.heap (Led c₀)) (hk : ∀ p ∈ ps c₀, m₀ p.1 = some p.2) (hp : P 0 c₀)
    (turn : ∀ (c : σ) i v I oI (u : Str → Option Value) h tk, vs[i]? = some v → P i c → (∀ p ∈ Led c, p.1 ≠ I) →
      Fr h₀ L h (fun y => if y = x then some v else kstB (fun z => if stored.contains z then u z else m₀ z) (ps c) y) → News h₀ L h ((I, oI) :: Led c) →
      wpAny (model prog w) A (execs body env) (MyPost h₀ L I oI (MyJ Led ps x stored m₀ P (i + 1)) { s with heap := h, toks := tk } Q) E { s with heap := h, toks := tk })
    (done : ∀ (c : σ) (u : Str → Option Value) h tk, P vs.length c → Fr h₀ L h (fun y => if y = x then u y else kstB (fun z => if stored.contains z then u z else m₀ z) (ps c) y) → News h₀ L h (Led c) → Q .next { s with heap := h, toks := tk }) :
    wpAny (model prog w) A (pyIter (.ref l)) (fun it s₂ => LoopAtV prog w A h₀ env x body Q E it s₂) E s := by
  subst hL
  have hl0 := hl _ _ hp
  have hol : s.heap.get? l = some (tupO vs nn) := (N _ hl0).1
  have hls : s.heap.IsTuple l vs.toArray := ⟨_, hol, rfl, nn, rfl⟩
  have hne : l ≠ s.heap.objs.size := Nat.ne_of_lt (Heap.lt_size hol)
  refine wpAny_pyIter_tuple hls ?_
  have W := Walks.tuple (prog := prog) (w := w) hh s.heap.objs.size l hne vs.toArray
  have hlen : vs.toArray.size = vs.length := by simp
  rw [hlen] at W
  refine ⟨_, _, _, vs.length, _, _, m₀, Led c₀, (fun i m nx => (∀ p ∈ nx, p.1 ≠ s.heap.objs.size) ∧ MyJ Led ps x stored m₀ P i m nx), rfl, W, ?_, ?_, ?_, ⟨⟨_, Heap.get?_push_size _ rfl, rfl, rfl⟩, hls.at fun o e => Heap.get?_push_of_some _ e⟩, F.push _, (fun p hp => ⟨Heap.get?_push_of_some _ (N p hp).1, (N p hp).2⟩), ⟨?_, c₀, rfl, hk, fun _ _ _ _ => rfl, hp⟩, ?_, ?_⟩
  · intro hm
    rcases List.mem_cons.mp hm with e | hm
    · exact absurd F.ns.lt (e ▸ Nat.lt_irrefl _)
    · exact (N _ hl0).2.1 ((List.mem_singleton.mp hm).symm)
  · intro b hb
    rw [List.mem_singleton.mp hb]
    exact next_is_new F
  · intro p hp hI
    exact absurd (Heap.lt_size (N p hp).1) ((List.mem_singleton.mp hI) ▸ Nat.lt_irrefl _)
  · intro p hp hI
    exact absurd (Heap.lt_size (N p hp).1) (hI ▸ Nat.lt_irrefl _)
  · rintro i v m₁ news₁ s₁ own ⟨hh', tk', rfl⟩ hin hP ⟨hoff, c, rfl, h1, h2, hp'⟩ - hown hget hfp hSt F₁ N₁
    obtain ⟨⟨oI, hoI, _⟩, _⟩ := hSt
    have hIo : (s.heap.objs.size, oI) ∈ own := hfp _ (.head _) (next_is_new F) _ hoI
    have hv : vs[i]? = some v := by simpa using hP
    have hl1 := hl _ _ hp'
    have hlo : hh'.get? l = some (tupO vs nn) := (N₁ _ (List.mem_append.mpr (.inr hl1))).1
    have N₂ : News h₀ env.locals hh' ((s.heap.objs.size, oI) :: Led c) := fun p hp => (List.mem_cons.mp hp).elim (fun e => e ▸ N₁ _ (List.mem_append.mpr (.inl hIo))) fun h => N₁ _ (List.mem_append.mpr (.inr h))
    refine wpAny_mono (turn c i v _ oI m₁ hh' tk' hv hp' hoff (kst_fr h1 h2 F₁) N₂) (fun f s₂ p => ?_) fun _ _ x => x
    have fin : MyEnd h₀ env.locals s.heap.objs.size oI (MyJ Led ps x stored m₀ P (i + 1)) { s with heap := hh', toks := tk' } s₂ →
        LoopStepU h₀ env.locals [s.heap.objs.size] own (fun m nx => (∀ p ∈ nx, p.1 ≠ s.heap.objs.size) ∧ MyJ Led ps x stored m₀ P (i + 1) m nx) { s with heap := hh', toks := tk' } .next s₂ := by
      rintro ⟨h', tk, m', nx, e, F', N', ha, hJ⟩
      refine ⟨rfl, h', tk, m', nx, e, F', fun p hp => ?_, fun p hp hI => ha p hp (List.mem_singleton.mp hI), ha, hJ⟩
      rcases List.mem_append.mp hp with hp | hp
      · have g := hget p hp
        dsimp only at g
        rcases List.mem_cons.mp (hown p hp) with e1 | e1
        · have e2 : p = (s.heap.objs.size, oI) := Prod.ext e1 (Option.some.inj (by rw [← g, e1]; exact hoI))
          exact e2 ▸ N' _ (.head _)
        · have e1 := List.mem_singleton.mp e1
          have e2 : p = (l, tupO vs nn) := Prod.ext e1 (Option.some.inj (by rw [← g, e1]; exact hlo))
          obtain ⟨c', rfl, _, _, hp2⟩ := hJ
          exact e2 ▸ N' _ (.tail _ (hl _ _ hp2))
      · exact N' _ (.tail _ hp)
    cases f with
    | ret v => exact .ret p
    | brk => exact .brk p
    | next => exact .next (fin p)
    | cont => exact .cont (fin p)
  · rintro h' tk m' news' F' N' - ⟨_, c, rfl, h1, h2, hp'⟩
    exact done c m' h' tk hp' (kst_frOut h1 h2 F') N'

theorem for_bytes {σ : Type} {b : Array UInt8} {tb : Tok} {ks : List Int} {m₀ : Str → Option Value} {L : Addr} (hL : env.locals = L) (Led : σ → List (Addr × Obj)) (ps : σ → List (Str × Value)) (stored : List Str) (P : Nat → σ → Prop) (c₀ : σ)
    (hh : A.handled = none) (hb : KBw.bInts b = ks) (F : Fr h₀ L s.heap m₀) (N : News h₀ L s.heap (Led c₀)) (hk : ∀ p ∈ ps c₀, m₀ p.1 = some p.2) (hp : P 0 c₀)
    (turn : ∀ (c : σ) i k t I oI (u : Str → Option Value) h tk, ks[i]? = some k → P i c → (∀ p ∈ Led c, p.1 ≠ I) →
      Fr h₀ L h (fun y => if y = x then some (.int k t) else kstB (fun z => if stored.contains z then u z else m₀ z) (ps c) y) → News h₀ L h ((I, oI) :: Led c) →
      wpAny (model prog w) A (execs body env) (MyPost h₀ L I oI (MyJ Led ps x stored m₀ P (i + 1)) { s with heap := h, toks := tk } Q) E { s with heap := h, toks := tk })
    (done : ∀ (c : σ) (u : Str → Option Value) h tk, P ks.length c → Fr h₀ L h (fun y => if y = x then u y else kstB (fun z => if stored.contains z then u z else m₀ z) (ps c) y) → News h₀ L h (Led c) → Q .next { s with heap := h, toks := tk }) :
    wpAny (model prog w) A (pyIter (.bytes b tb)) (fun it s₂ => LoopAtV prog w A h₀ env x body Q E it s₂) E s := by
  subst hL
  subst hb
  refine KBw.pyIter_bytes ?_
  have W := KBw.walks (prog := prog) (w := w) hh s.heap.objs.size b tb
  rw [← KBw.ints_length b] at W
  refine ⟨_, _, _, (KBw.bInts b).length, _, _, m₀, Led c₀, (fun i m nx => (∀ p ∈ nx, p.1 ≠ s.heap.objs.size) ∧ MyJ Led ps x stored m₀ P i m nx), rfl, W, ?_, ?_, ?_, ⟨_, Heap.get?_push_size _ rfl, rfl, rfl⟩, F.push _, (fun p hp => ⟨Heap.get?_push_of_some _ (N p hp).1, (N p hp).2⟩), ⟨?_, c₀, rfl, hk, fun _ _ _ _ => rfl, hp⟩, ?_, ?_⟩
  · intro hm
    exact absurd F.ns.lt ((List.mem_singleton.mp hm) ▸ Nat.lt_irrefl _)
  · intro b hb
    rw [List.mem_singleton.mp hb]
    exact next_is_new F
  · intro p hp hI
    exact absurd (Heap.lt_size (N p hp).1) ((List.mem_singleton.mp hI) ▸ Nat.lt_irrefl _)
  · intro p hp hI
    exact absurd (Heap.lt_size (N p hp).1) (hI ▸ Nat.lt_irrefl _)
  · rintro i v m₁ news₁ s₁ own ⟨hh', tk', rfl⟩ hin ⟨c9, t, hc9, rfl⟩ ⟨hoff, c, rfl, h1, h2, hp'⟩ - hown hget hfp hSt F₁ N₁
    obtain ⟨oI, hoI⟩ : ∃ o, hh'.get? s.heap.objs.size = some o := let ⟨o, ho, _⟩ := hSt; ⟨o, ho⟩
    have hIo := hfp _ (.head _) (next_is_new F) _ hoI
    have N₂ : News h₀ env.locals hh' ((s.heap.objs.size, oI) :: Led c) := fun p hp => (List.mem_cons.mp hp).elim (fun e => e ▸ N₁ _ (List.mem_append.mpr (.inl hIo))) fun h => N₁ _ (List.mem_append.mpr (.inr h))
    refine wpAny_mono (turn c i _ t _ oI m₁ hh' tk' (KBw.ints_get hc9) hp' hoff (kst_fr h1 h2 F₁) N₂) (fun f s₂ p => ?_) fun _ _ x => x
    have fin : MyEnd h₀ env.locals s.heap.objs.size oI (MyJ Led ps x stored m₀ P (i + 1)) { s with heap := hh', toks := tk' } s₂ →
        LoopStepU h₀ env.locals [s.heap.objs.size] own (fun m nx => (∀ p ∈ nx, p.1 ≠ s.heap.objs.size) ∧ MyJ Led ps x stored m₀ P (i + 1) m nx) { s with heap := hh', toks := tk' } .next s₂ := by
      rintro ⟨h', tk, m', nx, e, F', N', ha, hJ⟩
      refine ⟨rfl, h', tk, m', nx, e, F', fun p hp => ?_, fun p hp hI => ha p hp (List.mem_singleton.mp hI), ha, hJ⟩
      rcases List.mem_append.mp hp with hp | hp
      · have g := hget p hp
        dsimp only at g
        have e1 := List.mem_singleton.mp (hown p hp)
        have e2 : p = (s.heap.objs.size, oI) := Prod.ext e1 (Option.some.inj (by rw [← g, e1]; exact hoI))
        exact e2 ▸ N' _ (.head _)
      · exact N' _ (.tail _ hp)
    cases f with
    | ret v => exact .ret p
    | brk => exact .brk p
    | next => exact .next (fin p)
    | cont => exact .cont (fin p)
  · rintro h' tk m' news' F' N' - ⟨_, c, rfl, h1, h2, hp'⟩
    exact done c m' h' tk hp' (kst_frOut h1 h2 F') N'
end
section
open LCg
variable {prog : Program} {w : World} {A : Around} {s : Shared} {h₀ : Heap} {L : Addr} {m : Str → Option Value} {env : Env}
theorem comp_end_mono {s₁ s₂ : Shared} {I C D : Addr} {oI oC oD : Obj} {S : List (Addr × Obj) → Prop} {R R' : Value → List (Addr × Obj) → Prop} {y : Value} (h : CompEnd h₀ L m s₁ I oI C oC D oD S R y s₂) (hR : ∀ nx, R y nx → R' y nx) : CompEnd h₀ L m s₁ I oI C oC D oD S R' y s₂ := by
  obtain ⟨h', tk, nx, e, F, N, off, hS, r⟩ := h
  exact ⟨h', tk, nx, e, F, N, off, hS, hR _ r⟩
theorem comp_ind {elt : Expr} {x : Str} {scope : Scope} {cl : List (Str × Addr)} {S : List (Addr × Obj) → Prop} {P : Nat → Value → Prop} {Fin : List Value → List (Addr × Obj) → Prop} {n : Nat} (Inv : Nat → List Value → List (Addr × Obj) → Prop)
    (hfin : ∀ ys nx, Inv n ys nx → Fin ys nx)
    (hstep : ∀ i ys nx, i < n → Inv i ys nx → ∀ v I oI C oC D m₂ h tk (E' : Value → Shared → Prop), P i v → NsObj oC m₂ → m₂ x = some v → Fr h₀ L h m → News h₀ L h ((I, oI) :: (C, oC) :: (D, lst ys) :: nx) → Off3 I C D nx → ((@Ne Nat I C) ∧ (@Ne Nat I D) ∧ (@Ne Nat C D)) →
      wpAny (model prog w) A (eval elt (compEnvC scope cl C env)) (CompEnd h₀ L m { s with heap := h, toks := tk } I oI C oC D (lst ys) S (fun y nx' => Inv (i + 1) (ys ++ [y]) nx')) E' { s with heap := h, toks := tk }) :
    ∀ j i ys nx, i + j = n → Inv i ys nx → CompRest prog w A h₀ L m env elt x scope cl s S P Fin j i ys nx := by
  intro j
  induction j with
  | zero =>
    intro i ys nx hi h
    exact CompRest.zero (hfin ys nx (by rw [← hi]; exact h))
  | succ j ih =>
    intro i ys nx hi h
    refine CompRest.succ ?_
    intro v I oI C oC D m₂ hh tk E' hv hC hx F N off ne
    exact wpAny_mono (hstep i ys nx (by omega) h v I oI C oC D m₂ hh tk E' hv hC hx F N off ne) (fun y s₂ q => comp_end_mono q fun nx' r => ih (i + 1) _ nx' (by omega) r) fun _ _ e => e
end
theorem news_cut {h₀ : Heap} {L : Addr} {news : List (Addr × Obj)} {h : Heap} (N : News h₀ L h news) (fr : List (Addr × Obj)) (hf : ∀ q ∈ fr, q ∈ news) : ∃ rest, OwnOff rest (fr.map (·.1)) ∧ News h₀ L h (fr ++ rest) ∧ (∀ q ∈ rest, q ∈ news) ∧ ∀ q ∈ news, q.1 ∉ fr.map (·.1) → q ∈ rest := by
  refine ⟨news.filter (fun q => decide (q.1 ∉ fr.map (·.1))), ?_, ?_, ?_, ?_⟩
  · intro q hq c hc e
    exact of_decide_eq_true (List.mem_filter.mp hq).2 (e ▸ hc)
  · intro q hq
    rcases List.mem_append.mp hq with hq | hq
    · exact N _ (hf _ hq)
    · exact N _ (List.mem_filter.mp hq).1
  · exact fun q hq => (List.mem_filter.mp hq).1
  · exact fun q hq h => List.mem_filter.mpr ⟨hq, decide_eq_true h⟩
theorem off4 {q : Addr × Obj} {a b c d : Addr × Obj} (h1 : q.1 ≠ a.1) (h2 : q.1 ≠ b.1) (h3 : q.1 ≠ c.1) (h4 : q.1 ≠ d.1) : q.1 ∉ [a, b, c, d].map (·.1) := by simp [h1, h2, h3, h4]
theorem off2 {q : Addr × Obj} {a b : Addr × Obj} (h1 : q.1 ≠ a.1) (h2 : q.1 ≠ b.1) : q.1 ∉ [a, b].map (·.1) := by simp [h1, h2]
theorem off1 {q : Addr × Obj} {a : Addr × Obj} (h1 : q.1 ≠ a.1) : q.1 ∉ [a].map (·.1) := by simp [h1]
section
open PySem.Calls PyProof.Rows PyProof.Rows.LCg
variable {prog : Program} {w : World} {A : Around} {E : Value → Shared → Prop} {s : Shared} {h₀ : Heap} {L : Addr} {m : Str → Option Value} {env : Env}
/-- one turn of a comprehension over pairs: the test answers no -/
noncomputable def PairNo (prog : Program) (w : World) (A : Around) (h₀ : Heap) (L : Addr) (m : Str → Option Value) (env : Env) (ct : PySem.Expr) (x y : Str) (scope : Scope) (cl : List (Str × Addr)) (s : Shared) (nx : List (Addr × Obj)) (v1 v2 : Value) : Prop :=
  ∀ I oI C oC D m₂ h tk (E' : Value → Shared → Prop), NsObj oC m₂ → m₂ x = some v1 → m₂ y = some v2 → Fr h₀ L h m → News h₀ L h ((I, oI) :: (C, oC) :: (D, lst []) :: nx) → Off3 I C D nx → ((@Ne Nat I C) ∧ (@Ne Nat I D) ∧ (@Ne Nat C D)) →
    wpAny (model prog w) A (isTrue ct (compEnvC scope cl C env) (eval ct (compEnvC scope cl C env))) (fun ok s' => ok = false ∧ ∃ h' tk', s' = { s with heap := h', toks := tk' } ∧ Fr h₀ L h' m ∧ News h₀ L h' ((I, oI) :: (C, oC) :: (D, lst []) :: nx)) E' { s with heap := h, toks := tk }
theorem pair_block {ct elt iter : PySem.Expr} {x y : Str} {px py tp : Pos} {kk : Nat} {scope : Scope} {cl : List (Str × Addr)} {pos : Pos} {s₂ : Shared} {I ax : Addr} {its : Array Value} {nx : List (Addr × Obj)} {RR : Value → Addr → Result → Shared → Prop}
    (hh : A.handled = none) (hne : ax ≠ I) (hit : s₂.heap.IsListIter I ax 0) (hax : ∀ h, (∀ b o, h₀.get? b = some o → h.get? b = some o) → News h₀ L h nx → h.IsList ax its)
    (hpr : ∀ (i : Nat) v, its[i]? = some v → ∃ (t : Addr) (v1 v2 : Value) (k : Nat), v = .ref t ∧ (t, tupO [v1, v2] k) ∈ nx ∧ PairNo prog w A h₀ L m env ct x y scope cl s₂ nx v1 v2)
    (hcell : ∀ z ∈ scope.names, z.2 ≠ .cell) (hkind : scope.kind = .function) (hx : scope.names.lookup x = some .local) (hy : scope.names.lookup y = some .local) (hxy : x ≠ y)
    (F : Fr h₀ L s₂.heap m) (N : News h₀ L s₂.heap nx) (hIL : L ≠ I) (hI₀ : h₀.get? I = none) (off : ∀ p ∈ nx, p.1 ≠ I)
    (hRR : ∀ D C h tk m', Fr h₀ L h m → News h₀ L h ((D, lst []) :: nx) → Off1 D nx → h.Ns C m' → h₀.get? C = none → h₀.get? D = none → C ≠ L → D ≠ L → C ≠ D → (∀ p ∈ nx, p.1 ≠ C) → RR (.ref D) C (.ok .next) { s₂ with heap := h, toks := tk }) :
    wpAny (model prog w) A (newList []) (fun acc s₃ => wpAny (model prog w) A (newFunctionEnv scope env.globals cl [] env.qual none .none (some env)) (fun cenv s₄ =>
      codeAny (model prog w) A (.compStart (.ListComp elt [⟨.Tuple [.Name x px, .Name y py] kk tp, iter, [ct], 0⟩] scope pos) 0 (.ref I) acc { cenv with scope := relabel scope env }) (RR acc cenv.locals) s₄) E s₃) E s₂ := by
  refine wpAny_newObj_type (wpAny_newFunctionEnv hcell (by intro z hz; simp at hz) (fun h₁ hns₁ hsb₁ => ?_) hkind)
  dsimp only at hns₁ hsb₁ ⊢
  generalize hH2 : s₂.heap.push { cls := .type "list", dict := none, data := .seq ([] : List Value).toArray } = H2 at hns₁ hsb₁ ⊢
  have hC : H2.objs.size = s₂.heap.objs.size + 1 := by rw [← hH2, Heap.size_push]
  have hDC : s₂.heap.objs.size ≠ H2.objs.size := by rw [hC]; exact Nat.ne_of_lt (Nat.lt_succ_self _)
  have below : ∀ b, b < s₂.heap.objs.size → b ≠ H2.objs.size ∧ b ≠ s₂.heap.objs.size := fun b hb => ⟨by rw [hC]; exact Nat.ne_of_lt (Nat.lt_succ_of_lt hb), Nat.ne_of_lt hb⟩
  have hIlt : I < s₂.heap.objs.size := by obtain ⟨_, e, _⟩ := hit; exact Heap.lt_size e
  have old : ∀ b o, s₂.heap.get? b = some o → h₁.get? b = some o := fun b o e => hsb₁.extBut b o (below b (Heap.lt_size e)).1 (Heap.get?_push_of_some _ (hH2 ▸ Heap.get?_push_of_some _ e))
  have hacc : h₁.get? s₂.heap.objs.size = some (lst []) := hsb₁.extBut _ _ hDC (Heap.get?_push_of_some _ (hH2 ▸ Heap.get?_push_size _ rfl))
  have fresh₀ : ∀ a, s₂.heap.objs.size ≤ a → h₀.get? a = none := fun a ha => by
    cases e : h₀.get? a with
    | none => rfl
    | some o' => exact absurd (Heap.lt_size (F.keep a o' e)) (Nat.not_lt.mpr ha)
  have hD₀ : h₀.get? s₂.heap.objs.size = none := fresh₀ _ (Nat.le_refl _)
  have hC₀ : h₀.get? H2.objs.size = none := fresh₀ _ (by rw [hC]; exact Nat.le_succ _)
  have hDL : s₂.heap.objs.size ≠ L := Ne.symm (below L F.ns.lt).2
  have hCL : H2.objs.size ≠ L := Ne.symm (below L F.ns.lt).1
  have hCI : I ≠ H2.objs.size := (below I hIlt).1
  have hDI : I ≠ s₂.heap.objs.size := (below I hIlt).2
  have off₀ : Off3 I H2.objs.size s₂.heap.objs.size nx := Off3.of fun p hp => ⟨off p hp, (below _ (Heap.lt_size (N p hp).1)).1, (below _ (Heap.lt_size (N p hp).1)).2⟩
  have off3 := off₀.mem
  have W := Walks.list (prog := prog) (w := w) hh I ax hne its
  have loop : ∀ s₃ : Shared, s₃ = { s₂ with heap := h₁, toks := s₂.toks + ([] : List (Str × Value)).length } →
      codeAny (model prog w) A (.compLoop (.ListComp elt [⟨.Tuple [.Name x px, .Name y py] kk tp, iter, [ct], 0⟩] scope pos) 0 (.ref I) (.ref s₂.heap.objs.size) (compEnvC scope cl H2.objs.size env))
        (RR (.ref s₂.heap.objs.size) H2.objs.size) s₃ := by
    rintro s₃ rfl
    refine kct_loop
      (fun k s' => ∃ h' tk i m', s' = { s₂ with heap := h', toks := tk } ∧ i ≤ its.size ∧ k = its.size + 1 - i ∧ h'.IsListIter I ax i ∧ Fr h₀ L h' m ∧ h'.Ns H2.objs.size m' ∧ News h₀ L h' ((s₂.heap.objs.size, lst []) :: nx)) ?_ (its.size + 1)
      ⟨h₁, _, 0, _, rfl, Nat.zero_le _, rfl, hit.at fun o e => old _ o e, F.keeps old, hns₁, fun p hp => ?_⟩
    · rintro k s' ⟨h', tk, i, m', rfl, hi, rfl, hst', F', hn', N'⟩
      have hNx : News h₀ L h' nx := fun p hp => N' p (.tail _ hp)
      have hl : h'.IsList ax its := hax h' F'.keep hNx
      by_cases hlt : i < its.size
      · refine W.item i _ _ _ hlt ⟨hst', hl⟩ fun v h₂ tk₂ hPv hst₂ hk₂ => ?_
        obtain ⟨t, v1, v2, nt, rfl, hmt, R⟩ := hpr i v hPv
        have F₂ : Fr h₀ L h₂ m := fr_but F' hk₂ hIL hI₀
        have N₂ : News h₀ L h₂ ((s₂.heap.objs.size, lst []) :: nx) := news_but N' hk₂ fun p hp => by
          rcases List.mem_cons.mp hp with rfl | hp
          · exact Ne.symm hDI
          · exact (off3 p hp).1
        have ht : IsTup h₂ t #[v1, v2] := ⟨_, (N₂ _ (.tail _ hmt)).1, rfl, nt, rfl⟩
        refine wpAny_letOwnedTupleGo_listiter hst₂.1 ?_
        refine assign_Tuple_tuple hh ht rfl rfl fun h₅ he => ?_
        have he' : ∀ b o, h₂.get? b = some o → h₅.get? b = some o := fun b o e => he b o (Nat.ne_of_lt (Heap.lt_size e)) e
        refine assignInOrder_cons (wpAny_assign_Name (wpAny_storeName_local (lookup_relabel_local hx) ((hn'.at' fun o e => hk₂ _ o (by simpa using Ne.symm hCI) e).at' fun o e => he' _ o e) (fun h₆ hn₆ hs₆ => ?_) (by simp [compEnvC, relabel, hkind])))
        refine assignInOrder_cons (wpAny_assign_Name (wpAny_storeName_local (lookup_relabel_local hy) hn₆ (fun h₃ hn₃ hs₃ => ?_) (by simp [compEnvC, relabel, hkind])))
        refine assignInOrder_nil ?_
        have old3 : ∀ b o, b ≠ H2.objs.size → h₂.get? b = some o → h₃.get? b = some o := fun b o hb e => hs₃.extBut b o hb (hs₆.extBut b o hb (he' b o e))
        have hst₃ : h₃.IsListIter I ax (i + 1) := hst₂.1.at fun o e => old3 I o hCI e
        obtain ⟨oI, heI, hoI⟩ : ∃ oI, h₃.get? I = some oI ∧ ∀ h : Heap, h.get? I = some oI → h.IsListIter I ax (i + 1) := by
          obtain ⟨o, e, r⟩ := hst₃
          exact ⟨o, e, fun h e' => ⟨o, e', r⟩⟩
        obtain ⟨oC, heC, hoC⟩ := ns_obj hn₃
        have F₃ : Fr h₀ L h₃ m := ((F₂.keeps he').change hs₆ hCL hC₀).change hs₃ hCL hC₀
        have N₃ : News h₀ L h₃ ((I, oI) :: (H2.objs.size, oC) :: (s₂.heap.objs.size, lst []) :: nx) := fun p hp => by
          rcases List.mem_cons.mp hp with rfl | hp
          · exact ⟨heI, Ne.symm hIL, hI₀⟩
          · rcases List.mem_cons.mp hp with rfl | hp
            · exact ⟨heC, hCL, hC₀⟩
            · have z := N₂ p hp
              refine ⟨old3 _ _ ?_ z.1, z.2⟩
              rcases List.mem_cons.mp hp with rfl | hp
              · exact hDC
              · exact (off3 p hp).2.1
        refine wpAny_mono (R I oI H2.objs.size oC s₂.heap.objs.size _ h₃ _ _ hoC (by simp [hxy]) (by simp) F₃ N₃ off₀ ⟨hCI, hDI, Ne.symm hDC⟩) (fun ok s₄ q => ?_) fun _ _ e => e
        obtain ⟨rfl, h₄, tk₄, rfl, F₄, N₄⟩ := q
        simp only [Bool.false_eq_true, if_false]
        have zI := (N₄ (I, oI) (.head _)).1
        have zC := (N₄ (H2.objs.size, oC) (.tail _ (.head _))).1
        exact ⟨its.size + 1 - (i + 1), by omega, h₄, tk₄, i + 1, _, rfl, hlt, rfl, hoI h₄ zI, F₄, hoC.ns zC, fun p hp => N₄ p (.tail _ (.tail _ hp))⟩
      · obtain rfl : i = its.size := Nat.le_antisymm hi (Nat.not_lt.mp hlt)
        refine W.done _ _ _ ⟨hst', hl⟩ fun h₂ tk₂ hk₂ => ?_
        exact hRR _ _ h₂ tk₂ _ (fr_but F' hk₂ hIL hI₀) (news_but N' hk₂ fun p hp => by
          rcases List.mem_cons.mp hp with rfl | hp
          · exact Ne.symm hDI
          · exact (off3 p hp).1) off₀.one (hn'.at' fun o e => hk₂ _ o (by simpa using Ne.symm hCI) e) hC₀ hD₀ hCL hDL (Ne.symm hDC) (fun p hp => (off3 p hp).2.1)
    · rcases List.mem_cons.mp hp with rfl | hp
      · exact ⟨hacc, hDL, hD₀⟩
      · exact ⟨old _ _ (N p hp).1, (N p hp).2⟩
  exact codeAny_compStart_list (loop _ rfl) (W.self 0 _ _ _ ⟨hit.at fun o e => old _ o e, hax h₁ (F.keeps old).keep fun p hp => ⟨old _ _ (N p hp).1, (N p hp).2⟩⟩ (loop _ rfl))
noncomputable def PairSrc (prog : Program) (w : World) (A : Around) (h₀ : Heap) (L : Addr) (m : Str → Option Value) (env : Env) (ct : PySem.Expr) (x y : Str) (scope : Scope) (cl : List (Str × Addr)) (Q : Value → Shared → Prop) (xv : Value) (s₁ : Shared) : Prop :=
  ∃ (ax : Addr) (its : List Value) (k : Nat) (nx : List (Addr × Obj)), xv = .ref ax ∧ A.handled = none ∧ Fr h₀ L s₁.heap m ∧ News h₀ L s₁.heap nx ∧ (ax, listOf its.toArray k) ∈ nx ∧
      (∀ v ∈ its, ∃ (t : Addr) (v1 v2 : Value) (k : Nat), v = .ref t ∧ (t, tupO [v1, v2] k) ∈ nx ∧ ∀ g, PairNo prog w A h₀ L m env ct x y scope cl { s₁ with heap := g } nx v1 v2) ∧
      ∀ D h tk, Fr h₀ L h m → News h₀ L h ((D, lst []) :: nx) → Off1 D nx → Q (.ref D) { s₁ with heap := h, toks := tk }
theorem ListComp_pairNo {ct elt iter : PySem.Expr} {x y : Str} {px py tp : Pos} {kk : Nat} {scope : Scope} {cl : List (Str × Addr)} {pos : Pos} {Q : Value → Shared → Prop} (F₀ : Fr h₀ L s.heap m)
    (hclos : closureFor scope env = pure cl) (hcell : ∀ z ∈ scope.names, z.2 ≠ .cell) (hkind : scope.kind = .function)
    (hnames : ∀ z ∈ scope.names, z.2 = .local → scope.names.lookup z.1 = some .local) (hx : scope.names.lookup x = some .local) (hy : scope.names.lookup y = some .local) (hxy : x ≠ y)
    (h : wpAny (model prog w) A (eval iter env) (PairSrc prog w A h₀ L m env ct x y scope cl Q) E s)
    (hs : ∀ x, foldedSetIterable iter env x = pure x := by intro _; rfl) :
    wpAny (model prog w) A (eval (.ListComp elt [⟨.Tuple [.Name x px, .Name y py] kk tp, iter, [ct], 0⟩] scope pos) env) Q E s := by
  rw [eval_ListComp]
  refine wpAny_comprehension_free (use := none) rfl hs hclos hkind hnames (wpAny_mono h (fun xv s₁ h₁ => ?_) fun _ _ e => e)
  obtain ⟨ax, its, k, nx, rfl, hh, F, N, hm, hpr, fin⟩ := h₁
  have hl : s₁.heap.IsList ax its.toArray := ⟨_, (N _ hm).1, rfl, k, rfl⟩
  have hlt : ax < s₁.heap.objs.size := Heap.lt_size (N _ hm).1
  refine wpAny_pyIter_list hl ?_
  have up : ∀ b o, s₁.heap.get? b = some o → (s₁.heap.push { cls := .type "list_iterator", data := .fields #[.ref ax, .int 0 0] }).get? b = some o := fun b o e => Heap.get?_push_of_some _ e
  refine pair_block (its := its.toArray) (nx := nx) (ax := ax) hh (Nat.ne_of_lt hlt) ⟨_, Heap.get?_push_size _ rfl, rfl, rfl⟩ (fun h _ N' => ⟨_, (N' _ hm).1, rfl, k, rfl⟩) (fun i v hv => ?_) hcell hkind hx hy hxy (F.keeps up) (N.grown up) (Nat.ne_of_lt F.ns.lt) (next_is_new F) (fun p hp => Nat.ne_of_lt (Heap.lt_size (N p hp).1)) ?_
  · obtain ⟨t, v1, v2, k', e, hmt, R⟩ := hpr v (by
      have : its[i]? = some v := by simpa using hv
      exact List.mem_of_getElem? this)
    exact ⟨t, v1, v2, k', e, hmt, R _⟩
  · intro D C h' tk m' F' N' o1 hn hC₀ hD₀ hCL hDL hCD offC
    refine ⟨m', hn, fun h'' hs'' => fin D h'' tk (F'.change hs'' hCL hC₀) (fun p hp => ?_) o1⟩
    refine ⟨hs''.extBut _ _ ?_ (N' p hp).1, (N' p hp).2⟩
    rcases List.mem_cons.mp hp with rfl | hp
    · exact Ne.symm hCD
    · exact offC p hp
end
structure Fil where
  led : List (Addr × Obj)
  tb : Int
  tkb : Tok
  es : List DictEntry
  n : Nat
  vs : List Value
  nv : Nat
  fs : List Value
  nf : Nat
  T : Int
  tT : Tok
structure Fil.Ok (led0 : List (Addr × Obj)) (lb Db d st fr g0 : Addr) (es0 : List DictEntry) (c : Fil) : Prop where
  mb : (lb, W.listOf [.ref Db, .int c.tb c.tkb].toArray 0) ∈ c.led
  md : (d, dictOf c.es c.n) ∈ c.led
  mst : (st, W.listOf c.vs.toArray c.nv) ∈ c.led
  mfr : (fr, W.listOf c.fs.toArray c.nf) ∈ c.led
  keep : ∀ q ∈ led0, q.1 ≠ lb → q.1 ≠ d → q.1 ≠ st → q.1 ≠ fr → q ∈ c.led
  dk : Dk thrKeys 900 c.es
  top : getL "top" c.es = some (some (.int c.T c.tT))
  sm : Sm "top" c.es es0
  fs0 : ∃ fs', c.fs = .ref g0 :: fs'
  vl : c.vs.length = 21
  v0 : ∀ j : Nat, j < 21 → ((j : Int) < 1 ∨ c.T ≤ j) → c.vs[j]? = some .none
  v1 : ∀ j : Nat, 1 ≤ (j : Int) → (j : Int) < c.T → ∃ z tz, c.vs[j]? = some (.int z tz)
  T1 : 1 ≤ c.T
  tb0 : 0 ≤ c.tb
/-- one more value pushed -/
theorem Fil.push {led0 rest : List (Addr × Obj)} {lb Db d st fr g0 : Addr} {es0 es1 : List DictEntry} {n1 : Nat} {c : Fil} {z : Int} {tz tT1 : Tok} (h : c.Ok led0 lb Db d st fr g0 es0) (hT : c.T < 21) (a1 : @Ne Nat lb d) (a2 : @Ne Nat lb st) (a3 : @Ne Nat fr d) (a4 : @Ne Nat fr st)
    (hin : ∀ q ∈ c.led, q.1 ≠ d → q.1 ≠ st → q ∈ rest) (q1 : getL "top" es1 = some (some (.int (c.T + 1) tT1))) (q2 : Sm "top" es1 c.es) (q3 : Dk thrKeys 900 es1) :
    Fil.Ok led0 lb Db d st fr g0 es0 ⟨(d, dictOf es1 n1) :: (st, W.listOf (c.vs.set c.T.toNat (.int z tz)).toArray c.nv) :: rest, c.tb, c.tkb, es1, n1, c.vs.set c.T.toNat (.int z tz), c.nv, c.fs, c.nf, c.T + 1, tT1⟩ where
  mb := .tail _ (.tail _ (hin _ h.mb a1 a2))
  md := .head _
  mst := .tail _ (.head _)
  mfr := .tail _ (.tail _ (hin _ h.mfr a3 a4))
  keep := fun q hq b1 b2 b3 b4 => .tail _ (.tail _ (hin _ (h.keep q hq b1 b2 b3 b4) b2 b3))
  dk := q3
  top := q1
  sm := ⟨fun y hy => (q2.at_ y hy).trans (h.sm.at_ y hy)⟩
  fs0 := h.fs0
  vl := by rw [List.length_set]; exact h.vl
  v0 := fun j hj hc => by
    have hT1 := h.T1
    rw [List.getElem?_set]
    by_cases e : c.T.toNat = j
    · dsimp only at hc; omega
    · rw [if_neg e]
      exact h.v0 j hj (by dsimp only at hc; omega)
  v1 := fun j h1 h2 => by
    have hT1 := h.T1
    have hvl := h.vl
    rw [List.getElem?_set]
    by_cases e : c.T.toNat = j
    · rw [if_pos e, if_pos (by omega)]
      exact ⟨_, _, rfl⟩
    · rw [if_neg e]
      exact h.v1 j h1 (by dsimp only at h2; omega)
  T1 := by have := h.T1; dsimp only; omega
  tb0 := h.tb0
/-- one more frame pushed -/
theorem Fil.frame {led0 rest : List (Addr × Obj)} {lb Db d st fr g0 x : Addr} {es0 : List DictEntry} {c : Fil} (h : c.Ok led0 lb Db d st fr g0 es0) (a1 : @Ne Nat lb fr) (a2 : @Ne Nat d fr) (a3 : @Ne Nat st fr) (hin : ∀ q ∈ c.led, q.1 ≠ fr → q ∈ rest) :
    Fil.Ok led0 lb Db d st fr g0 es0 ⟨(fr, W.listOf (c.fs ++ [Value.ref x]).toArray (c.nf + 1)) :: rest, c.tb, c.tkb, c.es, c.n, c.vs, c.nv, c.fs ++ [.ref x], c.nf + 1, c.T, c.tT⟩ where
  mb := .tail _ (hin _ h.mb a1)
  md := .tail _ (hin _ h.md a2)
  mst := .tail _ (hin _ h.mst a3)
  mfr := .head _
  keep := fun q hq b1 b2 b3 b4 => .tail _ (hin _ (h.keep q hq b1 b2 b3 b4) b4)
  dk := h.dk
  top := h.top
  sm := h.sm
  fs0 := by obtain ⟨f, e⟩ := h.fs0; exact ⟨f ++ [.ref x], by dsimp only; rw [e]; rfl⟩
  vl := h.vl
  v0 := h.v0
  v1 := h.v1
  T1 := h.T1
  tb0 := h.tb0
/-- one more draw -/
theorem Fil.draw {led0 rest : List (Addr × Obj)} {lb Db d st fr g0 : Addr} {es0 : List DictEntry} {c : Fil} {tk : Tok} (h : c.Ok led0 lb Db d st fr g0 es0) (a1 : @Ne Nat d lb) (a2 : @Ne Nat st lb) (a3 : @Ne Nat fr lb) (hin : ∀ q ∈ c.led, q.1 ≠ lb → q ∈ rest) :
    Fil.Ok led0 lb Db d st fr g0 es0 ⟨(lb, W.listOf [.ref Db, .int (c.tb + 1) tk].toArray 0) :: rest, c.tb + 1, tk, c.es, c.n, c.vs, c.nv, c.fs, c.nf, c.T, c.tT⟩ where
  mb := .head _
  md := .tail _ (hin _ h.md a1)
  mst := .tail _ (hin _ h.mst a2)
  mfr := .tail _ (hin _ h.mfr a3)
  keep := fun q hq b1 b2 b3 b4 => .tail _ (hin _ (h.keep q hq b1 b2 b3 b4) b1)
  dk := h.dk
  top := h.top
  sm := h.sm
  fs0 := h.fs0
  vl := h.vl
  v0 := h.v0
  v1 := h.v1
  T1 := h.T1
  tb0 := by have := h.tb0; dsimp only; omega
/-- addresses that lie one above the other: kept in one fact, out of sight of omega -/
structure Ord (a0 a1 a2 a3 a4 a5 a6 a7 a8 a9 a10 a11 : Nat) : Prop where
  o1 : a0 < a1
  o2 : a1 < a2
  o3 : a2 < a3
  o4 : a3 < a4
  o5 : a4 < a5
  o6 : a5 < a6
  o7 : a6 < a7
  o8 : a7 < a8
  o9 : a8 < a9
  o10 : a9 < a10
  o11 : a10 < a11
noncomputable def Ap (a b : Nat) : Prop := a ≠ b
theorem Ap.out {a b : Nat} (h : Ap a b) : @Ne Nat a b := h
theorem Ap.symm {a b : Nat} (h : Ap a b) : @Ne Nat b a := Ne.symm h
section
variable {a0 a1 a2 a3 a4 a5 a6 a7 a8 a9 a10 a11 : Nat} (h : Ord a0 a1 a2 a3 a4 a5 a6 a7 a8 a9 a10 a11)
include h
theorem Ord.l0_1 : a0 < a1 := h.o1
theorem Ord.l1_2 : a1 < a2 := h.o2
theorem Ord.l2_3 : a2 < a3 := h.o3
theorem Ord.l3_4 : a3 < a4 := h.o4
theorem Ord.l4_5 : a4 < a5 := h.o5
theorem Ord.l5_6 : a5 < a6 := h.o6
theorem Ord.l6_7 : a6 < a7 := h.o7
theorem Ord.l7_8 : a7 < a8 := h.o8
theorem Ord.l8_9 : a8 < a9 := h.o9
theorem Ord.l9_10 : a9 < a10 := h.o10
theorem Ord.l10_11 : a10 < a11 := h.o11
theorem Ord.l0_2 : a0 < a2 := Nat.lt_trans h.l0_1 h.o2
theorem Ord.l1_3 : a1 < a3 := Nat.lt_trans h.l1_2 h.o3
theorem Ord.l2_4 : a2 < a4 := Nat.lt_trans h.l2_3 h.o4
theorem Ord.l3_5 : a3 < a5 := Nat.lt_trans h.l3_4 h.o5
theorem Ord.l4_6 : a4 < a6 := Nat.lt_trans h.l4_5 h.o6
theorem Ord.l5_7 : a5 < a7 := Nat.lt_trans h.l5_6 h.o7
theorem Ord.l6_8 : a6 < a8 := Nat.lt_trans h.l6_7 h.o8
theorem Ord.l7_9 : a7 < a9 := Nat.lt_trans h.l7_8 h.o9
theorem Ord.l8_10 : a8 < a10 := Nat.lt_trans h.l8_9 h.o10
theorem Ord.l9_11 : a9 < a11 := Nat.lt_trans h.l9_10 h.o11
theorem Ord.l0_3 : a0 < a3 := Nat.lt_trans h.l0_2 h.o3
theorem Ord.l1_4 : a1 < a4 := Nat.lt_trans h.l1_3 h.o4
theorem Ord.l2_5 : a2 < a5 := Nat.lt_trans h.l2_4 h.o5
theorem Ord.l3_6 : a3 < a6 := Nat.lt_trans h.l3_5 h.o6
theorem Ord.l4_7 : a4 < a7 := Nat.lt_trans h.l4_6 h.o7
theorem Ord.l5_8 : a5 < a8 := Nat.lt_trans h.l5_7 h.o8
theorem Ord.l6_9 : a6 < a9 := Nat.lt_trans h.l6_8 h.o9
theorem Ord.l7_10 : a7 < a10 := Nat.lt_trans h.l7_9 h.o10
theorem Ord.l8_11 : a8 < a11 := Nat.lt_trans h.l8_10 h.o11
theorem Ord.l0_4 : a0 < a4 := Nat.lt_trans h.l0_3 h.o4
theorem Ord.l1_5 : a1 < a5 := Nat.lt_trans h.l1_4 h.o5
theorem Ord.l2_6 : a2 < a6 := Nat.lt_trans h.l2_5 h.o6
theorem Ord.l3_7 : a3 < a7 := Nat.lt_trans h.l3_6 h.o7
theorem Ord.l4_8 : a4 < a8 := Nat.lt_trans h.l4_7 h.o8
theorem Ord.l5_9 : a5 < a9 := Nat.lt_trans h.l5_8 h.o9
theorem Ord.l6_10 : a6 < a10 := Nat.lt_trans h.l6_9 h.o10
theorem Ord.l7_11 : a7 < a11 := Nat.lt_trans h.l7_10 h.o11
theorem Ord.l0_5 : a0 < a5 := Nat.lt_trans h.l0_4 h.o5
theorem Ord.l1_6 : a1 < a6 := Nat.lt_trans h.l1_5 h.o6
theorem Ord.l2_7 : a2 < a7 := Nat.lt_trans h.l2_6 h.o7
theorem Ord.l3_8 : a3 < a8 := Nat.lt_trans h.l3_7 h.o8
theorem Ord.l4_9 : a4 < a9 := Nat.lt_trans h.l4_8 h.o9
theorem Ord.l5_10 : a5 < a10 := Nat.lt_trans h.l5_9 h.o10
theorem Ord.l6_11 : a6 < a11 := Nat.lt_trans h.l6_10 h.o11
theorem Ord.l0_6 : a0 < a6 := Nat.lt_trans h.l0_5 h.o6
theorem Ord.l1_7 : a1 < a7 := Nat.lt_trans h.l1_6 h.o7
theorem Ord.l2_8 : a2 < a8 := Nat.lt_trans h.l2_7 h.o8
theorem Ord.l3_9 : a3 < a9 := Nat.lt_trans h.l3_8 h.o9
theorem Ord.l4_10 : a4 < a10 := Nat.lt_trans h.l4_9 h.o10
theorem Ord.l5_11 : a5 < a11 := Nat.lt_trans h.l5_10 h.o11
theorem Ord.l0_7 : a0 < a7 := Nat.lt_trans h.l0_6 h.o7
theorem Ord.l1_8 : a1 < a8 := Nat.lt_trans h.l1_7 h.o8
theorem Ord.l2_9 : a2 < a9 := Nat.lt_trans h.l2_8 h.o9
theorem Ord.l3_10 : a3 < a10 := Nat.lt_trans h.l3_9 h.o10
theorem Ord.l4_11 : a4 < a11 := Nat.lt_trans h.l4_10 h.o11
theorem Ord.l0_8 : a0 < a8 := Nat.lt_trans h.l0_7 h.o8
theorem Ord.l1_9 : a1 < a9 := Nat.lt_trans h.l1_8 h.o9
theorem Ord.l2_10 : a2 < a10 := Nat.lt_trans h.l2_9 h.o10
theorem Ord.l3_11 : a3 < a11 := Nat.lt_trans h.l3_10 h.o11
theorem Ord.l0_9 : a0 < a9 := Nat.lt_trans h.l0_8 h.o9
theorem Ord.l1_10 : a1 < a10 := Nat.lt_trans h.l1_9 h.o10
theorem Ord.l2_11 : a2 < a11 := Nat.lt_trans h.l2_10 h.o11
theorem Ord.l0_10 : a0 < a10 := Nat.lt_trans h.l0_9 h.o10
theorem Ord.l1_11 : a1 < a11 := Nat.lt_trans h.l1_10 h.o11
theorem Ord.l0_11 : a0 < a11 := Nat.lt_trans h.l0_10 h.o11
end
section walk
variable {prog : Program} {w : World} {p : Program} {loose : List Str} {mean : ExcName → Option Value} {mg mb : Str → Option Value} {dp un : Nat} {gd : Option (List Code)} {cn : Str} {cs : Scope} {a : Addr} {ccd : Value} {cl : List (Str × Addr)} {outer : List Env} {A₀ : Around} {base h₀ : Heap} {L : Addr} {m : Str → Option Value} {s : Shared} {Q E : Value → Shared → Prop} {news : List (Addr × Obj)}
local macro_rules | `(tactic| walk_at "call ref") => `(tactic| k_extra "M call")
local macro_rules | `(tactic| walk_at "getAttr ref") => `(tactic| k_extra "M get")
local macro_rules | `(tactic| walk_at "setAttr ref") => `(tactic| k_extra "M set")
local macro_rules | `(tactic| walk_at "subscriptTail") => `(tactic| k_extra "M sub")
local macro_rules | `(tactic| walk_at "setItem ref int") => `(tactic| k_extra "M item")
local macro_rules | `(tactic| walk_at "pyIter ref") => `(tactic| k_extra "M iter")
local macro_rules | `(tactic| walk_at "exec While BoolOp cons nil") => `(tactic| k_extra "M stop")
local macro_rules | `(tactic| walk_at "exec While Compare cons nil") => `(tactic| k_extra "M stop")
local macro_rules | `(tactic| walk_at "exec For Name Call cons nil") => `(tactic| k_extra "M stop")
local macro_rules | `(tactic| walk_at "exec For Tuple Call cons nil") => `(tactic| k_extra "M stop")
local macro_rules | `(tactic| walk_at "exec For Name Tuple cons nil") => `(tactic| k_extra "M stop")
local macro_rules | `(tactic| walk_at "exec For Name Name cons nil") => `(tactic| k_extra "M stop")
local macro_rules | `(tactic| walk_at "call builtin:len") => `(tactic| k_extra "M len")
local macro_rules | `(tactic| walk_at "getMethod ref") => `(tactic| k_extra "M meth")
local macro_rules | `(tactic| walk_at "CompSrc") => `(tactic| k_extra "M cstop")
local macro_rules | `(tactic| walk_at "CompSrcT") => `(tactic| k_extra "M cstop")
local macro_rules | `(tactic| walk_at "eval ListComp") => `(tactic| k_extra "M stop")
local macro_rules | `(tactic| walk_at "pyIter bytes") => `(tactic| k_extra "M stop")
local macro_rules | `(tactic| walk_at "KswEnd") => `(tactic| k_extra "M stop")
local macro_rules | `(tactic| k_mem) => `(tactic| k_extra "M mem")
local macro_rules | `(tactic| k_ne) => `(tactic| k_extra "M ne")
theorem lines_on : PySem.Challenge.rw_rh0170_01 = PySem.Challenge.rw_rh0170_01 ∧ KT = KT := by
  k_fill
  k_with "M enter" => (refine' code_defB ?k1 ?k2 ?k3 ?k4 ?k5 ?kA ?kF ?kK ?k6 ?kBo ?k7 ?k8 ?k9 ?kB ?_ ?c2 ?c3 ?c4 ?c5; (case kA => exact rfl); (case kF => exact rfl); (case kK => first | exact rfl | with_reducible assumption | assumption); (case k1 => k_asm); (case k2 => k_asm); (case k3 => k_asm); (case k4 => k_asm); (case k5 => k_asm); (case k6 => k_is); (case kBo => ((conv => lhs; whnf); try exact rfl)); (case k7 => k_is); (case k8 => ktr_room); (case k9 => first | exact BindsTo.of_eq rfl | exact binds_K (by k_in) rfl (by k_is) rfl rfl rfl); (case c5 => decide); (case kB => exact locs rfl); (case c2 => exact rfl); (case c3 => exact rfl); (case c4 => exact rfl); k_whole; intro g' L' h' FG' F' N' B' X' T'; (try dsimp only); (try k_lift B'); (try k_fold))
  k_with "M getL" => (first | (with_reducible assumption) | (refine' Eq.trans (Sm.at_ (by with_reducible assumption) _ (by decide +kernel)) ?_; k_extra "M getL"))
  k_with "M get" => (k_here; k_dflt (refine' get_own ?k1 ?k2 ?k3 ?k4 ?k5 ?k6 ?k7 ?k8 ?k9 ?_; (case k1 => k_asm); (case k2 => k_asm); (case k3 => k_inst); (case k8 => k_extra "M getL"); (case k4 => k_is); (case k5 => k_is); (case k6 => k_is); (case k7 => k_is); (case k9 => first | with_reducible assumption | k_handed); k_whole))
  k_with "M set" => (k_here; k_dflt (refine' set_sym ?k1 ?k2 ?k3 ?k4 ?k5 ?k6 ?k7 ?k8 ?k9 ?k10 ?k11 ?k12 ?k13 ?_; (case k1 => k_asm); (case k2 => k_asm); (case k3 => k_asm); (case k4 => k_inst); (case k10 => k_extra "M getL"); (case k5 => exact rfl); (case k6 => k_is); (case k7 => k_is); (case k8 => k_is); (case k9 => k_is); (case k11 => k_asm); (case k12 => first | exact Nat.le_of_ble_eq_true rfl | omega); (case k13 => (intro es' n'; k_upd)); k_whole; intro h' es' n' F' N' e1' e2' e3'; (try k_sweep)))
  k_with "M item" => (k_here; k_dflt (refine' item_set ?k1 ?k2 ?k3 ?k4 ?k5 ?k6 ?_; (case k1 => k_asm); (case k2 => k_asm); (case k3 => k_upd); (case k4 => omega); (case k5 => omega); (case k6 => omega); k_whole; intro h' F' N'; (try k_sweep)))
  k_with "M nth" => (with_reducible assumption)
  k_with "M sub" => (k_here; (with_reducible show wpAny _ _ (subscriptTail _ _ (Value.ref _) (Value.int _ _)) _ _ _); k_dflt (refine' item_at ?k1 ?k2 ?k3 ?k4 ?k5 ?_ ?k6; (case k1 => k_asm); (case k2 => k_mem); (case k3 => omega); (case k4 => omega); (case k5 => k_extra "M nth"); (case k6 => with_unfolding_all rfl); k_whole))
  k_with "M len" => (k_here; (with_reducible show wpAny _ _ (call (Value.builtin "len") [Value.ref _]) _ _ _); k_dflt (refine' kst_len ?k1 ?k2 rfl ?k4 ?_; (case k1 => k_asm); (case k2 => k_mem); (case k4 => omega); k_whole))
  k_with "M call" => (k_here; k_dflt (refine wpAny_call ?_; k_extra "M enter"))
  k_with "M call" => (k_here; k_dflt (refine' call_cls ?k1 ?k2 ?k3 ?k4 ?k5 ?k6 ?_; (case k1 => k_asm); (case k2 => k_asm); (case k3 => k_asm); (case k4 => k_is); (case k5 => k_is); (case k6 => k_is); k_whole; intro x' d' h' F' N' l1 l2; (try k_lt l1); (try k_lt2 l2); (try k_sweep); k_extra "M enter"))
  k_with "M meth" => (k_here; k_dflt (refine' method_inst ?k1 ?k2 ?k3 ?k4 ?k5 ?k6 ?k7 ?_; (case k1 => k_asm); (case k2 => k_asm); (case k3 => k_inst); (case k7 => exact Dk.off (by with_reducible assumption) _ (by decide +kernel)); (case k4 => k_is); (case k5 => k_is); (case k6 => k_is); k_whole))
  k_with "M iter" => ((rename StopHere => hS9); refine Stop.out ?_)
  k_with "M cstop" => ((rename StopComp => hS8); refine Stop.out ?_)
  k_with "M stop" => ((rename StopHere => hS9); refine Stop.out ?_)
  k_with "M same" => (intro z9 h1 h2; simp only [List.forall_mem_cons, List.not_mem_nil, false_implies, implies_true, and_true, ne_eq] at h1; simp [kstB, h1])
  k_with "M call" => ((rename StopHere => hS9); (first | (with_reducible show wpAny _ _ (call (Value.ref 851) _ _) _ _ _) | (with_reducible show wpAny _ _ (call (Value.ref 337) _ _) _ _ _) | (with_reducible show wpAny _ _ (call (Value.ref 379) _ _) _ _ _) | (with_reducible show wpAny _ _ (call (Value.ref 230) _ _) _ _ _) | (with_reducible show wpAny _ _ (call (Value.ref 237) _ _) _ _ _) | (with_reducible show wpAny _ _ (call (Value.ref 244) _ _) _ _ _) | (with_reducible show wpAny _ _ (call (Value.ref 781) _ _) _ _ _) | (with_reducible show wpAny _ _ (call (Value.ref 440) _ _) _ _ _) | (with_reducible show wpAny _ _ (call (Value.ref 251) _ _) _ _ _) | (with_reducible show wpAny _ _ (call (Value.ref 447) _ _) _ _ _) | (with_reducible show wpAny _ _ (call (Value.ref 28) _ _) _ _ _) | (with_reducible show wpAny _ _ (call (Value.ref 351) _ _) _ _ _) | (with_reducible show wpAny _ _ (call (Value.ref 454) _ _) _ _ _) | (with_reducible show wpAny _ _ (call (Value.ref 856) _ _) _ _ _) | (with_reducible show wpAny _ _ (call (Value.ref 461) _ _) _ _ _) | (with_reducible show wpAny _ _ (call (Value.ref 595) _ _) _ _ _) | (with_reducible show wpAny _ _ (call (Value.ref 161) _ _) _ _ _) | (with_reducible show wpAny _ _ (call (Value.ref 553) _ _) _ _ _) | (with_reducible show wpAny _ _ (call (Value.ref 560) _ _) _ _ _) | (with_reducible show wpAny _ _ (call (Value.ref 581) _ _) _ _ _) | (with_reducible show wpAny _ _ (call (Value.ref 623) _ _) _ _ _) | (with_reducible show wpAny _ _ (call (Value.ref 637) _ _) _ _ _) | (with_reducible show wpAny _ _ (call (Value.ref 524) _ _) _ _ _) | (with_reducible show wpAny _ _ (call (Value.ref 671) _ _) _ _ _) | (with_reducible show wpAny _ _ (call (Value.ref 659) _ _) _ _ _) | (with_reducible show wpAny _ _ (call (Value.ref 651) _ _) _ _ _) | (with_reducible show wpAny _ _ (call (Value.ref 685) _ _) _ _ _) | (with_reducible show wpAny _ _ (call (Value.ref 616) _ _) _ _ _) | (with_reducible show wpAny _ _ (call (Value.ref 323) _ _) _ _ _) | (with_reducible show wpAny _ _ (call (Value.ref 403) _ _) _ _ _) | (with_reducible show wpAny _ _ (call (Value.ref 840) _ _) _ _ _) | (with_reducible show wpAny _ _ (call (Value.ref 429) _ _) _ _ _) | (with_reducible show wpAny _ _ (call (Value.ref 60) _ _) _ _ _) | (with_reducible show wpAny _ _ (call (Value.ref 630) _ _) _ _ _) | (with_reducible show wpAny _ _ (call (Value.ref 644) _ _) _ _ _)); refine Stop.out ?_)
  k_with "M pre" => ((case B => k_asm); (case F => k_asm); (case X => k_asm); (case N => k_asm); (case T => k_asm); (case hkk => first | exact rfl | with_reducible assumption); (case hd => ktr_room); (case hu => ktr_units))
  k_with "M mem" => (refine memOf ?_; ktr_member)
  k_with "M ord" => (first | exact Nat.ne_of_lt (Ord.l0_1 hO) | exact Nat.ne_of_gt (Ord.l0_1 hO) | exact Nat.ne_of_lt (Ord.l1_2 hO) | exact Nat.ne_of_gt (Ord.l1_2 hO) | exact Nat.ne_of_lt (Ord.l2_3 hO) | exact Nat.ne_of_gt (Ord.l2_3 hO) | exact Nat.ne_of_lt (Ord.l3_4 hO) | exact Nat.ne_of_gt (Ord.l3_4 hO) | exact Nat.ne_of_lt (Ord.l4_5 hO) | exact Nat.ne_of_gt (Ord.l4_5 hO) | exact Nat.ne_of_lt (Ord.l5_6 hO) | exact Nat.ne_of_gt (Ord.l5_6 hO) | exact Nat.ne_of_lt (Ord.l6_7 hO) | exact Nat.ne_of_gt (Ord.l6_7 hO) | exact Nat.ne_of_lt (Ord.l7_8 hO) | exact Nat.ne_of_gt (Ord.l7_8 hO) | exact Nat.ne_of_lt (Ord.l8_9 hO) | exact Nat.ne_of_gt (Ord.l8_9 hO) | exact Nat.ne_of_lt (Ord.l9_10 hO) | exact Nat.ne_of_gt (Ord.l9_10 hO) | exact Nat.ne_of_lt (Ord.l10_11 hO) | exact Nat.ne_of_gt (Ord.l10_11 hO) | exact Nat.ne_of_lt (Ord.l0_2 hO) | exact Nat.ne_of_gt (Ord.l0_2 hO) | exact Nat.ne_of_lt (Ord.l1_3 hO) | exact Nat.ne_of_gt (Ord.l1_3 hO) | exact Nat.ne_of_lt (Ord.l2_4 hO) | exact Nat.ne_of_gt (Ord.l2_4 hO) | exact Nat.ne_of_lt (Ord.l3_5 hO) | exact Nat.ne_of_gt (Ord.l3_5 hO) | exact Nat.ne_of_lt (Ord.l4_6 hO) | exact Nat.ne_of_gt (Ord.l4_6 hO) | exact Nat.ne_of_lt (Ord.l5_7 hO) | exact Nat.ne_of_gt (Ord.l5_7 hO) | exact Nat.ne_of_lt (Ord.l6_8 hO) | exact Nat.ne_of_gt (Ord.l6_8 hO) | exact Nat.ne_of_lt (Ord.l7_9 hO) | exact Nat.ne_of_gt (Ord.l7_9 hO) | exact Nat.ne_of_lt (Ord.l8_10 hO) | exact Nat.ne_of_gt (Ord.l8_10 hO) | exact Nat.ne_of_lt (Ord.l9_11 hO) | exact Nat.ne_of_gt (Ord.l9_11 hO) | exact Nat.ne_of_lt (Ord.l0_3 hO) | exact Nat.ne_of_gt (Ord.l0_3 hO) | exact Nat.ne_of_lt (Ord.l1_4 hO) | exact Nat.ne_of_gt (Ord.l1_4 hO) | exact Nat.ne_of_lt (Ord.l2_5 hO) | exact Nat.ne_of_gt (Ord.l2_5 hO) | exact Nat.ne_of_lt (Ord.l3_6 hO) | exact Nat.ne_of_gt (Ord.l3_6 hO) | exact Nat.ne_of_lt (Ord.l4_7 hO) | exact Nat.ne_of_gt (Ord.l4_7 hO) | exact Nat.ne_of_lt (Ord.l5_8 hO) | exact Nat.ne_of_gt (Ord.l5_8 hO) | exact Nat.ne_of_lt (Ord.l6_9 hO) | exact Nat.ne_of_gt (Ord.l6_9 hO) | exact Nat.ne_of_lt (Ord.l7_10 hO) | exact Nat.ne_of_gt (Ord.l7_10 hO) | exact Nat.ne_of_lt (Ord.l8_11 hO) | exact Nat.ne_of_gt (Ord.l8_11 hO) | exact Nat.ne_of_lt (Ord.l0_4 hO) | exact Nat.ne_of_gt (Ord.l0_4 hO) | exact Nat.ne_of_lt (Ord.l1_5 hO) | exact Nat.ne_of_gt (Ord.l1_5 hO) | exact Nat.ne_of_lt (Ord.l2_6 hO) | exact Nat.ne_of_gt (Ord.l2_6 hO) | exact Nat.ne_of_lt (Ord.l3_7 hO) | exact Nat.ne_of_gt (Ord.l3_7 hO) | exact Nat.ne_of_lt (Ord.l4_8 hO) | exact Nat.ne_of_gt (Ord.l4_8 hO) | exact Nat.ne_of_lt (Ord.l5_9 hO) | exact Nat.ne_of_gt (Ord.l5_9 hO) | exact Nat.ne_of_lt (Ord.l6_10 hO) | exact Nat.ne_of_gt (Ord.l6_10 hO) | exact Nat.ne_of_lt (Ord.l7_11 hO) | exact Nat.ne_of_gt (Ord.l7_11 hO) | exact Nat.ne_of_lt (Ord.l0_5 hO) | exact Nat.ne_of_gt (Ord.l0_5 hO) | exact Nat.ne_of_lt (Ord.l1_6 hO) | exact Nat.ne_of_gt (Ord.l1_6 hO) | exact Nat.ne_of_lt (Ord.l2_7 hO) | exact Nat.ne_of_gt (Ord.l2_7 hO) | exact Nat.ne_of_lt (Ord.l3_8 hO) | exact Nat.ne_of_gt (Ord.l3_8 hO) | exact Nat.ne_of_lt (Ord.l4_9 hO) | exact Nat.ne_of_gt (Ord.l4_9 hO) | exact Nat.ne_of_lt (Ord.l5_10 hO) | exact Nat.ne_of_gt (Ord.l5_10 hO) | exact Nat.ne_of_lt (Ord.l6_11 hO) | exact Nat.ne_of_gt (Ord.l6_11 hO) | exact Nat.ne_of_lt (Ord.l0_6 hO) | exact Nat.ne_of_gt (Ord.l0_6 hO) | exact Nat.ne_of_lt (Ord.l1_7 hO) | exact Nat.ne_of_gt (Ord.l1_7 hO) | exact Nat.ne_of_lt (Ord.l2_8 hO) | exact Nat.ne_of_gt (Ord.l2_8 hO) | exact Nat.ne_of_lt (Ord.l3_9 hO) | exact Nat.ne_of_gt (Ord.l3_9 hO) | exact Nat.ne_of_lt (Ord.l4_10 hO) | exact Nat.ne_of_gt (Ord.l4_10 hO) | exact Nat.ne_of_lt (Ord.l5_11 hO) | exact Nat.ne_of_gt (Ord.l5_11 hO) | exact Nat.ne_of_lt (Ord.l0_7 hO) | exact Nat.ne_of_gt (Ord.l0_7 hO) | exact Nat.ne_of_lt (Ord.l1_8 hO) | exact Nat.ne_of_gt (Ord.l1_8 hO) | exact Nat.ne_of_lt (Ord.l2_9 hO) | exact Nat.ne_of_gt (Ord.l2_9 hO) | exact Nat.ne_of_lt (Ord.l3_10 hO) | exact Nat.ne_of_gt (Ord.l3_10 hO) | exact Nat.ne_of_lt (Ord.l4_11 hO) | exact Nat.ne_of_gt (Ord.l4_11 hO) | exact Nat.ne_of_lt (Ord.l0_8 hO) | exact Nat.ne_of_gt (Ord.l0_8 hO) | exact Nat.ne_of_lt (Ord.l1_9 hO) | exact Nat.ne_of_gt (Ord.l1_9 hO) | exact Nat.ne_of_lt (Ord.l2_10 hO) | exact Nat.ne_of_gt (Ord.l2_10 hO) | exact Nat.ne_of_lt (Ord.l3_11 hO) | exact Nat.ne_of_gt (Ord.l3_11 hO) | exact Nat.ne_of_lt (Ord.l0_9 hO) | exact Nat.ne_of_gt (Ord.l0_9 hO) | exact Nat.ne_of_lt (Ord.l1_10 hO) | exact Nat.ne_of_gt (Ord.l1_10 hO) | exact Nat.ne_of_lt (Ord.l2_11 hO) | exact Nat.ne_of_gt (Ord.l2_11 hO) | exact Nat.ne_of_lt (Ord.l0_10 hO) | exact Nat.ne_of_gt (Ord.l0_10 hO) | exact Nat.ne_of_lt (Ord.l1_11 hO) | exact Nat.ne_of_gt (Ord.l1_11 hO) | exact Nat.ne_of_lt (Ord.l0_11 hO) | exact Nat.ne_of_gt (Ord.l0_11 hO))
  k_with "M ne" => (refine neN ?_; (try dsimp only); first | with_reducible assumption | exact Ne.symm (by with_reducible assumption) | exact Nat.ne_of_lt (by with_reducible assumption) | exact Nat.ne_of_gt (by with_reducible assumption) | exact Ap.out (by with_reducible assumption) | exact Ap.symm (by with_reducible assumption) | (guard_hyp hO; k_extra "M ord") | omega)
  exact ⟨rfl, rfl⟩
theorem c_spot {t d ou : Addr} {es : List DictEntry} {n nu : Nat} {ul : List U} {i : Int} {ti : Tok}
    (B : Below A₀ base outer h₀) (F : Fr h₀ L s.heap m) (X : (KT w.params).In h₀) (N : News h₀ L s.heap news) (T' : Top p loose mean mg mb h₀) (hkk : cs.kind = .function)
    (ht : (t, instObj 403 d) ∈ news) (md : (d, dictOf es n) ∈ news) (mo : (ou, W.listOf (refsU ul).toArray nu) ∈ news) (hU : ∀ r ∈ ul, r.Ok news t)
    (hb : Dk thrKeys 900 es) (e1 : getL "open_upvals" es = some (some (.ref ou))) (h2 : ul.length < 1000)
    (hd : dp + 10 < recursionLimit) (hu : un + 50 < cLine)
    (hret : ∀ tk h' tk', Fr h₀ L h' m → News h₀ L h' news → Q (.int (spotN ul i) tk) { s with heap := h', toks := tk' }) :
    wpAny (model prog w) (ktrTop dp un gd cn cs L a ccd cl outer) (call (.ref 230) [.ref t, .int i ti]) Q E s := by
  have hMk := kstMark
  have hSt := StopHere.mk
  refine wpAny_call ?_
  k_dflt (k_extra "M enter")
  k_steps
  refine Stop.on ?_
  rename Fr _ _ _ _ => lF
  rename News _ _ _ _ => lN
  with_unfolding_all refine' ksw_while (σ := Nat × Tok) (fun _ => news) (fun c => [(Str.ofString "at", .int ((c.1 : Nat) : Int) c.2)]) (fun _ => True) [] (fun c => c.1 ≤ spotN ul i) (fun c => spotN ul i - c.1) (0, _) lF lN trivial ?hk (Nat.zero_le _) ?turn
  case hk => exact List.forall_mem_cons.mpr ⟨by with_unfolding_all rfl, List.forall_mem_nil _⟩
  case turn =>
    clear lF lN
    rintro ⟨k, tk0⟩ u h tk - hP F1 N1
    dsimp only at hP F1 N1
    k_with "M nth" => (exact nthU (by assumption))
    have hl := refsU_len ul
    cases hr : ul[k]? with
    | some r =>
      have hlt : k < ul.length := (List.getElem?_eq_some_iff.mp hr).1
      have hrU := hU r (List.mem_of_getElem? hr)
      have r1 := hrU.obj
      have r2 := hrU.dic
      have r3 := hrU.dk
      have r4 := hrU.idx
      k_steps
      · refine Stop.on ?_
        have g := spot_up hr hP (by omega)
        exact ksw_end (k + 1, _) (by k_asm) (by k_asm) (fun _ h => h) trivial (List.forall_mem_cons.mpr ⟨by with_unfolding_all rfl, List.forall_mem_nil _⟩) (by k_extra "M same") g (by dsimp only; omega)
      · have g := spot_end hr hP (by omega)
        rw [g]
        exact hret _ _ _ (by k_asm) (by k_asm)
    | none =>
      have hge : ul.length ≤ k := List.getElem?_eq_none_iff.mp hr
      have g : k = spotN ul i := by have := spotN_le ul i; omega
      k_steps
      rw [g]
      exact hret _ _ _ (by k_asm) (by k_asm)

theorem lines_oa : True := by
  k_with "M call" => ((with_reducible show wpAny _ _ (call (Value.ref 230) _ _) _ _ _); k_here; k_dflt (refine' c_spot ?B ?F ?X ?N ?T ?hkk ?ht ?md ?mo ?hU ?hb ?e1 ?h2 ?hd ?hu ?_; (case B => k_asm); (case F => k_asm); (case X => k_asm); (case N => k_asm); (case T => k_asm); (case hkk => first | exact rfl | assumption); (case ht => k_mem); (case md => k_mem); (case mo => k_mem); (case hU => k_asm); (case hb => k_asm); (case e1 => k_extra "M getL"); (case h2 => omega); (case hd => ktr_room); (case hu => ktr_units); k_whole; intro tk9 h9 tk9' F9 N9; (try dsimp only); (try k_sweep)))
  trivial
theorem c_openat {t d ou : Addr} {es : List DictEntry} {n nu : Nat} {ul : List U} {i : Int} {ti : Tok}
    (B : Below A₀ base outer h₀) (F : Fr h₀ L s.heap m) (X : (KT w.params).In h₀) (N : News h₀ L s.heap news) (T' : Top p loose mean mg mb h₀) (hkk : cs.kind = .function)
    (ht : (t, instObj 403 d) ∈ news) (md : (d, dictOf es n) ∈ news) (mo : (ou, W.listOf (refsU ul).toArray nu) ∈ news) (hU : ∀ r ∈ ul, r.Ok news t)
    (hb : Dk thrKeys 900 es) (e1 : getL "open_upvals" es = some (some (.ref ou))) (h2 : ul.length < 1000)
    (hd : dp + 20 < recursionLimit) (hu : un + 100 < cLine)
    (hret : ∀ r ∈ ul, r.i = i → ∀ h' tk', Fr h₀ L h' m → News h₀ L h' news → Q (.ref r.x) { s with heap := h', toks := tk' })
    (hno : ∀ h' tk', Fr h₀ L h' m → News h₀ L h' news → Q .none { s with heap := h', toks := tk' }) :
    wpAny (model prog w) (ktrTop dp un gd cn cs L a ccd cl outer) (call (.ref 237) [.ref t, .int i ti]) Q E s := by
  have hMk := kstMark
  have hl := refsU_len ul
  have hsl := spotN_le ul i
  refine wpAny_call ?_
  k_dflt (k_extra "M enter")
  k_with "M nth" => (exact nthU (by assumption))
  cases hr : ul[spotN ul i]? with
  | some r =>
    have hlt : spotN ul i < ul.length := (List.getElem?_eq_some_iff.mp hr).1
    have hm := List.mem_of_getElem? hr
    have hrU := hU r hm
    have r1 := hrU.obj
    have r2 := hrU.dic
    have r3 := hrU.dk
    have r4 := hrU.idx
    k_steps
    all_goals first
      | exact hno _ _ (by k_asm) (by k_asm)
      | exact hret r hm (by omega) _ _ (by k_asm) (by k_asm)
  | none =>
    have hge : ul.length ≤ spotN ul i := List.getElem?_eq_none_iff.mp hr
    k_steps
    exact hno _ _ (by k_asm) (by k_asm)
theorem lines_put : True := by
  k_with "M call" => ((with_reducible show wpAny _ _ (call (Value.ref 230) _ _) _ _ _); k_here; k_dflt (refine' c_spot ?B ?F ?X ?N ?T ?hkk ?ht ?md ?mo ?hU ?hb ?e1 ?h2 ?hd ?hu ?_; (case B => k_asm); (case F => k_asm); (case X => k_asm); (case N => k_asm); (case T => k_asm); (case hkk => first | exact rfl | assumption); (case ht => k_mem); (case md => k_mem); (case mo => k_mem); (case hU => k_asm); (case hb => k_asm); (case e1 => k_extra "M getL"); (case h2 => omega); (case hd => ktr_room); (case hu => ktr_units); k_whole; intro tk9 h9 tk9' F9 N9; (try dsimp only); (try k_sweep)))
  trivial
theorem c_put {t d ou : Addr} {es : List DictEntry} {n nu : Nat} {ul : List U} {r : U} {nf : List (Addr × Obj)}
    (B : Below A₀ base outer h₀) (F : Fr h₀ L s.heap m) (X : (KT w.params).In h₀) (N : News h₀ L s.heap news) (T' : Top p loose mean mg mb h₀) (hkk : cs.kind = .function)
    (ht : (t, instObj 403 d) ∈ news) (md : (d, dictOf es n) ∈ news) (U1 : Upd ou (W.listOf (refsU ul).toArray nu) (W.listOf (refsU (insU ul (spotN ul r.i) r)).toArray (nu + 1)) news nf) (hU : ∀ r ∈ ul, r.Ok news t) (hrU : r.Ok news t)
    (hb : Dk thrKeys 900 es) (e1 : getL "open_upvals" es = some (some (.ref ou))) (h2 : ul.length < 1000)
    (hd : dp + 20 < recursionLimit) (hu : un + 100 < cLine)
    (hret : ∀ h' tk', Fr h₀ L h' m → News h₀ L h' nf → Q .none { s with heap := h', toks := tk' }) :
    wpAny (model prog w) (ktrTop dp un gd cn cs L a ccd cl outer) (call (.ref 244) [.ref t, .ref r.x]) Q E s := by
  have hMk := kstMark
  obtain ⟨mo, -⟩ := upd_mem U1
  obtain ⟨rest, hoff, N2, hr⟩ := news_split N [(ou, W.listOf (refsU ul).toArray nu)] (List.forall_mem_cons.mpr ⟨mo, List.forall_mem_nil _⟩)
  simp only [List.map_cons, List.map_nil, List.cons_append, List.nil_append] at hoff N2 hr
  have hU2 : ∀ r ∈ ul, r.Ok ((ou, W.listOf (refsU ul).toArray nu) :: rest) t := fun q hq => (hU q hq).mono hr
  have m1 := hr _ ht
  have m2 := hr _ md
  have m3 := hr _ hrU.obj
  have m4 := hr _ hrU.dic
  have r3 := hrU.dk
  have r4 := hrU.idx
  have hle := spotN_le ul r.i
  have hk0 : (0 : Int) ≤ ((spotN ul r.i : Nat) : Int) := by omega
  have hk1 : ((spotN ul r.i : Nat) : Int) < 2 ^ 63 := by omega
  have hfi := fitsIndex_of hk0 hk1
  have hins := insU_refs (r := r) hle
  have hsz : (refsU ul).toArray.toList.length ≤ sizeLine := by rw [PySem.sizeLine_eq]; simp [refsU]; omega
  clear N ht md mo
  refine wpAny_call ?_
  k_dflt (k_extra "M enter")
  k_steps
  refine' kl_insert (by k_asm) (by k_asm) hfi hins (by k_upd) hsz ?_
  intro h' F' N'
  k_steps
  exact hret _ _ (by k_asm) (news_upd1 (by k_asm) U1 hr)

theorem lines_openat : True := by
  trivial
theorem c_newup {hp dh : Addr} {eh : List DictEntry} {nh : Nat} {t : Addr} {i na nb : Int} {ti ta tb : Tok} {nf : List DictEntry → Nat → List (Addr × Obj)}
    (B : Below A₀ base outer h₀) (F : Fr h₀ L s.heap m) (X : (KT w.params).In h₀) (N : News h₀ L s.heap news) (T' : Top p loose mean mg mb h₀) (hkk : cs.kind = .function)
    (mh : (hp, instObj 840 dh) ∈ news) (Uh : ∀ e' n', Upd dh (dictOf eh nh) (dictOf e' n') news (nf e' n')) (hbh : Dk plhKeys 900 eh)
    (e1 : getL "last_number" eh = some (some (.int na ta))) (e2 : getL "total" eh = some (some (.int nb tb)))
    (hd : dp + 20 < recursionLimit) (hu : un + 100 < cLine)
    (hret : ∀ (r : U) na' nb' ta' tb' e' n' h' tk', r.i = i → Dk upvKeys 900 r.eu → getL "index" r.eu = some (some (.int r.i r.tk)) → getL "thread" r.eu = some (some (.ref t)) → (∃ v, getL "value" r.eu = some (some v)) →
      Dk plhKeys 900 e' → getL "last_number" e' = some (some (.int na' ta')) → getL "total" e' = some (some (.int nb' tb')) → (∀ q ∈ news, q.1 < r.dx) → @LT.lt Nat _ r.dx r.x →
      Fr h₀ L h' m → News h₀ L h' ((r.x, instObj 221 r.dx) :: (r.dx, dictOf r.eu r.n) :: nf e' n') → Q (.ref r.x) { s with heap := h', toks := tk' }) :
    wpAny (model prog w) (ktrTop dp un gd cn cs L a ccd cl outer) (call (.ref 781) [.ref hp, .ref t, .int i ti]) Q E s := by
  have hMk := kstMark
  obtain ⟨md, -⟩ := upd_mem (Uh eh nh)
  have a1 : @Ne Nat hp dh := news_apart N mh md inst_ne_dict
  obtain ⟨rest, hoff, N2, hr⟩ := news_split N [(dh, dictOf eh nh), (hp, instObj 840 dh)] (all2 md mh)
  simp only [List.map_cons, List.map_nil, List.cons_append, List.nil_append] at hoff N2 hr
  clear N
  refine wpAny_call ?_
  k_dflt (k_extra "M enter")
  k_steps
  rename News _ _ _ _ => nE
  have nE2 := news_new2 nE (Uh _ _) hr
  refine' hret ⟨x', d', _, _, i, _⟩ _ _ _ _ _ _ _ _ rfl ?c2 ?c3 ?c4 ⟨_, ?c5⟩ ?c6 ?c7 ?c8 ?c9 l2 ?c10 ?c11
  case c11 => exact nE2
  case c10 => k_asm
  case c2 => exact Dk.of_keys (by kernel_rfl) (by simp)
  case c3 => (dsimp only; with_unfolding_all rfl)
  case c4 => (dsimp only; with_unfolding_all rfl)
  case c5 => (dsimp only; with_unfolding_all rfl)
  case c6 => assumption
  case c7 => k_extra "M getL"
  case c8 => k_extra "M getL"
  case c9 => exact fun q hq => kst_ltOf (l := (dh, dictOf eh nh) :: (hp, instObj 840 dh) :: rest) ⟨l1.1, l1.2.1, l1.2.2⟩ q (hr q hq)

theorem c_find {t d ou gl dg hp dh : Addr} {es eg eh : List DictEntry} {n ng nh nu : Nat} {ul : List U} {i na nb : Int} {ti ta tb : Tok} {n1 : List DictEntry → Nat → List (Addr × Obj)} {n2 : U → List DictEntry → Nat → List (Addr × Obj)}
    (B : Below A₀ base outer h₀) (F : Fr h₀ L s.heap m) (X : (KT w.params).In h₀) (N : News h₀ L s.heap news) (T' : Top p loose mean mg mb h₀) (hkk : cs.kind = .function)
    (ht : (t, instObj 403 d) ∈ news) (md : (d, dictOf es n) ∈ news) (mg' : (gl, instObj 429 dg) ∈ news) (mdg : (dg, dictOf eg ng) ∈ news) (mh : (hp, instObj 840 dh) ∈ news)
    (Uh : ∀ e' n', Upd dh (dictOf eh nh) (dictOf e' n') news (n1 e' n')) (Uo : ∀ r e' n', Upd ou (W.listOf (refsU ul).toArray nu) (W.listOf (refsU (insU ul (spotN ul i) r)).toArray (nu + 1)) (n1 e' n') (n2 r e' n'))
    (hU : ∀ r ∈ ul, r.Ok news t) (hb : Dk thrKeys 900 es) (e1 : getL "open_upvals" es = some (some (.ref ou))) (e2 : getL "glob" es = some (some (.ref gl)))
    (hbg : Dk glbKeys 900 eg) (e3 : getL "heap" eg = some (some (.ref hp))) (hbh : Dk plhKeys 900 eh) (e4 : getL "last_number" eh = some (some (.int na ta))) (e5 : getL "total" eh = some (some (.int nb tb))) (h2 : ul.length < 1000)
    (hd : dp + 50 < recursionLimit) (hu : un + 400 < cLine)
    (hret : ∀ r ∈ ul, r.i = i → ∀ h' tk', Fr h₀ L h' m → News h₀ L h' news → Q (.ref r.x) { s with heap := h', toks := tk' })
    (hnew : ∀ (r : U) na' nb' ta' tb' e' n' h' tk', r.i = i → r.Ok ((r.x, instObj 221 r.dx) :: (r.dx, dictOf r.eu r.n) :: n2 r e' n') t → (∀ q ∈ ul, q.Ok ((r.x, instObj 221 r.dx) :: (r.dx, dictOf r.eu r.n) :: n2 r e' n') t) →
      Dk plhKeys 900 e' → getL "last_number" e' = some (some (.int na' ta')) → getL "total" e' = some (some (.int nb' tb')) → (∀ q ∈ news, q.1 < r.dx) → @LT.lt Nat _ r.dx r.x →
      Fr h₀ L h' m → News h₀ L h' ((r.x, instObj 221 r.dx) :: (r.dx, dictOf r.eu r.n) :: n2 r e' n') → Q (.ref r.x) { s with heap := h', toks := tk' }) :
    wpAny (model prog w) (ktrTop dp un gd cn cs L a ccd cl outer) (call (.ref 440) [.ref t, .int i ti]) Q E s := by
  have hMk := kstMark
  have hSt := StopHere.mk
  have N0 := N
  obtain ⟨mdh, hn1⟩ := upd_mem (Uh eh nh)
  have a1 : @Ne Nat hp dh := news_apart N mh mdh inst_ne_dict
  have a2 : @Ne Nat t dh := news_apart N ht mdh inst_ne_dict
  have a3 : @Ne Nat gl dh := news_apart N mg' mdh inst_ne_dict
  have a4 : @Ne Nat d dh := news_apart N md mdh (dict_ne e1 hbh (by decide +kernel))
  have a5 : @Ne Nat dg dh := news_apart N mdg mdh (dict_ne e3 hbh (by decide +kernel))
  have mo : (ou, W.listOf (refsU ul).toArray nu) ∈ news := by
    have r0 : U := ⟨0, 0, [], 0, 0, 0⟩
    exact mem_of_upd (Uh eh nh) (upd_mem (Uo r0 eh nh)).1 list_ne_dict
  refine wpAny_call ?_
  k_dflt (k_extra "M enter")
  k_steps
  refine Stop.on ?_
  refine' c_openat (ul := ul) (i := i) ?B ?F ?X ?N ?T ?hkk ?ht ?md ?mo ?hU ?hb ?e1 ?h2 ?hd ?hu ?ret ?no
  k_extra "M pre"
  case ht => k_mem
  case md => k_mem
  case mo => k_mem
  case hU => exact hU
  case hb => k_asm
  case e1 => k_extra "M getL"
  case h2 => omega
  case ret =>
    intro r hm hi h9 tk9 F9 N9
    try dsimp only
    have hrU := hU r hm
    have r1 := hrU.obj
    have r2 := hrU.dic
    have r3 := hrU.dk
    have r4 := hrU.idx
    have r5 := hrU.thr
    k_steps
    exact hret r hm hi _ _ (by k_asm) (by k_asm)
  case no =>
    intro h9 tk9 F9 N9
    try dsimp only
    k_steps
    refine Stop.on ?_
    refine' c_newup (eh := eh) (nh := nh) (nf := n1) (na := na) (nb := nb) (ta := ta) (tb := tb) ?B ?F ?X ?N ?T ?hkk ?mh Uh ?hbh ?e1 ?e2 ?hd ?hu ?ret
    k_extra "M pre"
    case mh => k_mem
    case hbh => k_asm
    case e1 => k_extra "M getL"
    case e2 => k_extra "M getL"
    case ret =>
      intro r na' nb' ta' tb' e' n' h8 tk8 hri hrk hrx hrt hrv hk8 hl8 ht8 hl1 hl2 F8 N8
      try dsimp only
      have U8 := Uh e' n'
      have mv : ∀ {c : Addr} {oc : Obj}, (c, oc) ∈ news → @Ne Nat c dh → (c, oc) ∈ (r.x, instObj 221 r.dx) :: (r.dx, dictOf r.eu r.n) :: n1 e' n' := fun h hne => .tail _ (.tail _ (mem_upd U8 h hne))
      have m1 := mv ht a2
      have m2 := mv md a4
      have m3 := mv mg' a3
      have m4 := mv mdg a5
      have m5 := mv mh a1
      have nd : ∀ {c : Addr} {oc : Obj}, (c, oc) ∈ news → @Ne Nat c r.dx ∧ @Ne Nat c r.x := fun h => ⟨Nat.ne_of_lt (hl1 _ h), Nat.ne_of_lt (Nat.lt_trans (hl1 _ h) hl2)⟩
      have Uo' := Uo r e' n'
      have hro : r.Ok ((r.x, instObj 221 r.dx) :: (r.dx, dictOf r.eu r.n) :: n1 e' n') t := ⟨.head _, .tail _ (.head _), hrk, hrx, hrt, hrv⟩
      have hU8 : ∀ q ∈ ul, q.Ok ((r.x, instObj 221 r.dx) :: (r.dx, dictOf r.eu r.n) :: n1 e' n') t := fun q hq =>
        have h := hU q hq
        ⟨mv h.obj (news_apart N0 h.obj mdh inst_ne_dict), mv h.dic (news_apart N0 h.dic mdh (dict_ne h.idx hbh (by decide +kernel))), h.dk, h.idx, h.thr, h.val⟩
      have Up : Upd ou (W.listOf (refsU ul).toArray nu) (W.listOf (refsU (insU ul (spotN ul r.i) r)).toArray (nu + 1)) ((r.x, instObj 221 r.dx) :: (r.dx, dictOf r.eu r.n) :: n1 e' n') ((r.x, instObj 221 r.dx) :: (r.dx, dictOf r.eu r.n) :: n2 r e' n') :=
        .tail (fun e => (nd mo).2 e.symm) (.tail (fun e => (nd mo).1 e.symm) (hri ▸ Uo'))
      k_steps
      refine Stop.on ?_
      refine' c_put (es := es) (n := n) (ul := ul) (r := r) ?B ?F ?X ?N ?T ?hkk ?ht ?md Up hU8 hro ?hb ?e1 ?h2 ?hd ?hu ?ret
      k_extra "M pre"
      case ht => k_mem
      case md => k_mem
      case hb => k_asm
      case e1 => k_extra "M getL"
      case h2 => omega
      case ret =>
        intro h7 tk7 F7 N7
        try dsimp only
        k_steps
        have mv2 : ∀ {c : Addr} {oc : Obj}, (c, oc) ∈ news → @Ne Nat c dh → @Ne Nat c ou → (c, oc) ∈ (r.x, instObj 221 r.dx) :: (r.dx, dictOf r.eu r.n) :: n2 r e' n' := fun h hne ho => .tail _ (.tail _ (mem_upd Uo' (mem_upd U8 h hne) ho))
        have hU7 : ∀ q ∈ ul, q.Ok ((r.x, instObj 221 r.dx) :: (r.dx, dictOf r.eu r.n) :: n2 r e' n') t := fun q hq =>
          have h := hU q hq
          ⟨mv2 h.obj (news_apart N0 h.obj mdh inst_ne_dict) (news_apart N0 h.obj mo inst_ne_list), mv2 h.dic (news_apart N0 h.dic mdh (dict_ne h.idx hbh (by decide +kernel))) (news_apart N0 h.dic mo (fun e => list_ne_dict e.symm)), h.dk, h.idx, h.thr, h.val⟩
        exact hnew r na' nb' ta' tb' e' n' _ _ hri ⟨.head _, .tail _ (.head _), hrk, hrx, hrt, hrv⟩ hU7 hk8 hl8 ht8 hl1 hl2 (by k_asm) (by k_asm)

theorem c_push {t d st : Addr} {es : List DictEntry} {n : Nat} {vs : List Value} {nv b : Nat} {T : Int} {tT : Tok} {v : Value} {n1 n2 : List DictEntry → Nat → List (Addr × Obj)}
    (B : Below A₀ base outer h₀) (F : Fr h₀ L s.heap m) (X : (KT w.params).In h₀) (N : News h₀ L s.heap news) (T' : Top p loose mean mg mb h₀) (hkk : cs.kind = .function)
    (ht : (t, instObj 403 d) ∈ news) (U1 : ∀ es' n', Upd d (dictOf es n) (dictOf es' n') news (n1 es' n')) (U2 : ∀ es' n', Upd st (W.listOf vs.toArray nv) (W.listOf (vs.set T.toNat v).toArray nv) (n1 es' n') (n2 es' n'))
    (e1 : getL "top" es = some (some (.int T tT))) (e2 : getL "stack" es = some (some (.ref st))) (hb : Dk thrKeys b es) (hbl : b ≤ 1000) (h0 : 0 ≤ T) (h1 : T < vs.length) (h2 : vs.length < 1000)
    (hd : dp + 1 < recursionLimit) (hu : un + 8 < cLine)
    (hret : ∀ tT' es' n' h' tk', getL "top" es' = some (some (.int (T + 1) tT')) → Sm "top" es' es → Dk thrKeys b es' → Fr h₀ L h' m → News h₀ L h' (n2 es' n') → Q .none { s with heap := h', toks := tk' }) :
    wpAny (model prog w) (ktrTop dp un gd cn cs L a ccd cl outer) (call (.ref 337) [.ref t, v]) Q E s := by
  obtain ⟨md, -⟩ := upd_mem (U1 es n)
  obtain ⟨ms, -⟩ := upd_mem (U2 es n)
  have hst := mem_of_upd (U1 es n) ms list_ne_dict
  have a1 : @Ne Nat t d := news_apart N ht md inst_ne_dict
  have a2 : @Ne Nat t st := news_apart N ht hst inst_ne_list
  have a3 : @Ne Nat st d := news_apart N hst md list_ne_dict
  obtain ⟨rest, hoff, N2, hr⟩ := news_split N [(d, dictOf es n), (st, W.listOf vs.toArray nv), (t, instObj 403 d)] (all3 md hst ht)
  simp only [List.map_cons, List.map_nil, List.cons_append, List.nil_append] at hoff N2 hr
  clear N
  refine wpAny_call ?_
  k_dflt (k_extra "M enter")
  k_steps
  refine' hret _ _ _ _ _ ?r1 ?r2 ?r3 ?r4 ?r5
  case r4 => k_asm
  case r5 => exact news_upd2 (by k_asm) (U1 _ _) (U2 _ _) hr
  case r1 => assumption
  case r2 => assumption
  case r3 => assumption

theorem c_pushf {t d st fr : Addr} {es : List DictEntry} {n : Nat} {vs fs : List Value} {nv nf : Nat} {fn ba wa : Int} {tp : Int} {t1 t2 t3 t4 : Tok} {nn : Addr → List (Addr × Obj)}
    (B : Below A₀ base outer h₀) (F : Fr h₀ L s.heap m) (X : (KT w.params).In h₀) (N : News h₀ L s.heap news) (T' : Top p loose mean mg mb h₀) (hkk : cs.kind = .function)
    (ht : (t, instObj 403 d) ∈ news) (md : (d, dictOf es n) ∈ news) (hst : (st, W.listOf vs.toArray nv) ∈ news) (U : ∀ x, Upd fr (W.listOf fs.toArray nf) (W.listOf (fs ++ [Value.ref x]).toArray (nf + 1)) news (nn x))
    (e1 : getL "stack" es = some (some (.ref st))) (hb : Dk thrKeys 900 es) (e2 : getL "frames" es = some (some (.ref fr))) (hsf : @Ne Nat st fr) (h0 : 0 ≤ tp) (h1 : tp ≤ vs.length) (h2 : vs.length < 1000) (h3 : fs.length < 1000)
    (hd : dp + 10 < recursionLimit) (hu : un + 50 < cLine)
    (hret : ∀ x h' tk', Fr h₀ L h' m → News h₀ L h' (nn x) → Q (.ref x) { s with heap := h', toks := tk' }) :
    wpAny (model prog w) (ktrTop dp un gd cn cs L a ccd cl outer) (call (.ref 379) [.ref t, .int fn t1, .int ba t2, .int tp t3, .int wa t4]) Q E s := by
  obtain ⟨mf, -⟩ := upd_mem (U 0)
  have a1 : @Ne Nat t fr := news_apart N ht mf inst_ne_list
  have a2 : @Ne Nat d fr := news_apart N md mf list_ne_dict.symm
  obtain ⟨rest, hoff, N2, hr⟩ := news_split N [(fr, W.listOf fs.toArray nf), (st, W.listOf vs.toArray nv), (d, dictOf es n), (t, instObj 403 d)] (all4 mf hst md ht)
  simp only [List.map_cons, List.map_nil, List.cons_append, List.nil_append] at hoff N2 hr
  clear N
  have hMk := kstMark
  refine wpAny_call ?_
  k_dflt (k_extra "M enter")
  k_steps
  rename News _ _ _ _ => nE
  simp only [List.push_toArray] at nE
  exact hret _ _ _ (by k_asm) (news_upd1 (news_sub nE (by k_sub)) (U _) hr)
theorem c_swept {b c : Addr} {nb nc : Nat} {vs : List Value} {ns : List Int} {t : Int} {tt tm : Tok} {many : Int} {nf : Tok → List (Addr × Obj)}
    (B : Below A₀ base outer h₀) (F : Fr h₀ L s.heap m) (X : (KT w.params).In h₀) (N : News h₀ L s.heap news) (T : Top p loose mean mg mb h₀) (hkk : cs.kind = .function)
    (U : ∀ tk, Upd b (listOf [.ref c, .int t tt].toArray nb) (listOf [.ref c, .int (t+1) tk].toArray nb) news (nf tk)) (hc : (c, listOf vs.toArray nc) ∈ news)
    (hi : IntsAre vs ns) (hlen : ns.length ≤ 30) (ht : 0 ≤ t) (ht2 : t < 1000) (hm : 0 < many) (hm2 : many < 1000) (hd : dp + 1 < recursionLimit) (hu : un + 8 < cLine)
    (hret : ∀ r tr tk2 h' tk', 0 ≤ r → r < many → Fr h₀ L h' m → News h₀ L h' (nf tk2) → Q (.int r tr) { s with heap := h', toks := tk' }) :
    wpAny (model prog w) (ktrTop dp un gd cn cs L a ccd cl outer) (call (.ref 851) [.ref b, .int many tm]) Q E s := by
  obtain ⟨hb, -⟩ := upd_mem (U 0)
  have hbc : @Ne Nat c b := news_apart N hc hb (ints_no_ref hi)
  obtain ⟨rest, hoff, N2, hr⟩ := news_split N [_, _] (List.forall_mem_cons.mpr ⟨hb, List.forall_mem_cons.mpr ⟨hc, List.forall_mem_nil _⟩⟩)
  simp only [List.map_cons, List.map_nil, List.cons_append, List.nil_append] at hoff N2 hr
  clear N
  refine wpAny_call ?_
  k_dflt (k_extra "M enter")
  k_steps
  all_goals (refine' hret _ _ ?tk _ _ ?a ?b ?f ?n; (case f => k_asm); (case a => exact Int.fmod_nonneg_of_pos _ hm); (case b => exact Int.fmod_lt_of_pos _ hm); (case n => exact news_upd1 (by k_asm) (U _) hr))
/-- a closed variable as it lies -/
structure C where
  x : Addr
  dx : Addr
  eu : List DictEntry
  n : Nat
  v : Value
structure C.Ok (news : List (Addr × Obj)) (r : C) : Prop where
  obj : (r.x, instObj 221 r.dx) ∈ news
  dic : (r.dx, dictOf r.eu r.n) ∈ news
  dk : Dk upvKeys 900 r.eu
  thr : getL "thread" r.eu = some (some .none)
  val : getL "value" r.eu = some (some r.v)
noncomputable def refsC (ul : List C) : List Value := ul.map fun r => .ref r.x
theorem refsC_add (ul : List C) (c : C) : refsC ul ++ [.ref c.x] = refsC (ul ++ [c]) := by simp [refsC]
theorem open_ne_closed {e1 e2 : List DictEntry} {n1 n2 : Nat} {a : Addr} (h1 : getL "thread" e1 = some (some (.ref a))) (h2 : getL "thread" e2 = some (some .none)) : dictOf e1 n1 ≠ dictOf e2 n2 := fun e => by
  have e3 := congrArg Obj.data e
  injection e3 with e3 _
  have e4 : e1 = e2 := by simpa using congrArg Array.toList e3
  rw [e4, h2] at h1
  cases h1
structure TS where
  led : List (Addr × Obj)
  ul : List U
  nu : Nat
  nf : Nat
  cls : List C
structure TS.Ok (news : List (Addr × Obj)) (t ou f : Addr) (ul : List U) (vs : List Value) (c : TS) : Prop where
  mo : (ou, W.listOf (refsU c.ul).toArray c.nu) ∈ c.led
  mf : (f, W.listOf (refsC c.cls).toArray c.nf) ∈ c.led
  hU : ∀ r ∈ c.ul, r.Ok c.led t
  nd : (c.ul.map (·.dx)).Nodup
  sub : ∀ r ∈ c.ul, r ∈ ul
  hC : ∀ k ∈ c.cls, k.Ok c.led
  all : ∀ r ∈ ul, r ∈ c.ul ∨ ∃ k ∈ c.cls, k.x = r.x ∧ vs[r.i.toNat]? = some k.v
  len : c.cls.length + c.ul.length = ul.length
  keep : ∀ q ∈ news, q.1 ≠ ou → (∀ r ∈ ul, q.1 ≠ r.dx) → q ∈ c.led

theorem c_take {t d ou st : Addr} {es : List DictEntry} {n nu nv : Nat} {ul : List U} {vs : List Value} {i : Int} {ti : Tok}
    (B : Below A₀ base outer h₀) (F : Fr h₀ L s.heap m) (X : (KT w.params).In h₀) (N : News h₀ L s.heap news) (T' : Top p loose mean mg mb h₀) (hkk : cs.kind = .function)
    (ht : (t, instObj 403 d) ∈ news) (md : (d, dictOf es n) ∈ news) (mo : (ou, W.listOf (refsU ul).toArray nu) ∈ news) (ms : (st, W.listOf vs.toArray nv) ∈ news) (hso : @Ne Nat st ou)
    (hU : ∀ r ∈ ul, r.Ok news t) (hnd : (ul.map (·.dx)).Nodup) (hi : ∀ r ∈ ul, i ≤ r.i ∧ 0 ≤ r.i ∧ r.i < vs.length)
    (hb : Dk thrKeys 900 es) (e1 : getL "open_upvals" es = some (some (.ref ou))) (e2 : getL "stack" es = some (some (.ref st))) (h2 : ul.length < 1000) (h3 : vs.length < 1000)
    (hd : dp + 20 < recursionLimit) (hu : un + 100 < cLine)
    (hret : ∀ f nf nu' cls news' h' tk', (f, W.listOf (refsC cls).toArray nf) ∈ news' → cls.length = ul.length → (∀ k ∈ cls, k.Ok news') → (∀ r ∈ ul, ∃ k ∈ cls, k.x = r.x ∧ vs[r.i.toNat]? = some k.v) →
      (ou, W.listOf ([] : List Value).toArray nu') ∈ news' → (∀ q ∈ news, q.1 ≠ ou → (∀ r ∈ ul, q.1 ≠ r.dx) → q ∈ news') → Fr h₀ L h' m → News h₀ L h' news' → Q (.ref f) { s with heap := h', toks := tk' }) :
    wpAny (model prog w) (ktrTop dp un gd cn cs L a ccd cl outer) (call (.ref 251) [.ref t, .int i ti]) Q E s := by
  have hMk := kstMark
  have hSt := StopHere.mk
  have N0 := N
  have a1 : @Ne Nat t ou := news_apart N ht mo inst_ne_list
  have a2 : @Ne Nat d ou := news_apart N md mo (fun e => list_ne_dict e.symm)
  have b1 : ∀ r ∈ ul, @Ne Nat t r.dx := fun r hr => news_apart N ht (hU r hr).dic inst_ne_dict
  have b2 : ∀ r ∈ ul, @Ne Nat d r.dx := fun r hr => news_apart N md (hU r hr).dic (dict_ne e1 (hU r hr).dk (by decide +kernel))
  have b3 : ∀ r ∈ ul, @Ne Nat st r.dx := fun r hr => news_apart N ms (hU r hr).dic list_ne_dict
  refine wpAny_call ?_
  k_dflt (k_extra "M enter")
  k_steps
  refine Stop.on ?_
  rename Fr _ _ _ _ => lF
  rename News _ _ _ _ => lN
  rename ∀ (_ : Addr × Obj), _ ∈ news → _ < _ => lA
  rename_i l9 lA9 lB9 l9c
  with_unfolding_all refine' ksw_while (σ := TS) (fun c => c.led) (fun c => []) (fun _ => True) [Str.ofString "upval"] (TS.Ok news t ou lA9 ul vs) (fun c => c.ul.length) ⟨_, ul, nu, 0, []⟩ lF lN trivial (List.forall_mem_nil _) ?hp ?turn
  case hp => exact ⟨.tail _ mo, .head _, fun r hr => (hU r hr).mono (fun _ h => .tail _ h), hnd, fun _ h => h, List.forall_mem_nil _, fun r hr => .inl hr, Nat.zero_add _, fun q hq _ _ => .tail _ hq⟩
  case turn =>
    clear lF lN
    rintro ⟨led, cul, cu, cf, cls⟩ u h tk - hP F1 N1
    dsimp only at F1 N1
    have hl := refsU_len cul
    have hlen := hP.len
    dsimp only at hlen
    have m1 : (t, instObj 403 d) ∈ led := hP.keep _ ht a1 b1
    have m2 : (d, dictOf es n) ∈ led := hP.keep _ md a2 b2
    have m3 : (st, W.listOf vs.toArray nv) ∈ led := hP.keep _ ms hso b3
    have m4 : (ou, W.listOf (refsU cul).toArray cu) ∈ led := hP.mo
    have m5 : (lA9, W.listOf (refsC cls).toArray cf) ∈ led := hP.mf
    cases cul with
    | nil =>
      simp only [List.length_nil] at hl
      k_steps
      refine hret lA9 cf cu cls led _ _ m5 (by simpa using hlen) hP.hC (fun r hr => (hP.all r hr).resolve_left (fun h => nomatch h)) m4 hP.keep (by k_asm) (by k_asm)
    | cons r cul =>
      simp only [List.length_cons] at hl hlen
      have hrU := hP.hU r (.head _)
      obtain ⟨g1, g2, g3⟩ := hi r (hP.sub r (.head _))
      obtain ⟨v, hv⟩ : ∃ v, vs[r.i.toNat]? = some v := ⟨_, List.getElem?_eq_getElem (by omega)⟩
      obtain ⟨rest, hoff, N2, hr⟩ := news_split N1 [(r.dx, dictOf r.eu r.n), (ou, W.listOf (refsU (r :: cul)).toArray cu), (lA9, W.listOf (refsC cls).toArray cf)] (all3 hrU.dic m4 m5)
      simp only [List.map_cons, List.map_nil, List.cons_append, List.nil_append] at hoff N2 hr
      have r3 := hrU.dk
      have r4 := hrU.idx
      have r5 := hrU.thr
      obtain ⟨v0, r6⟩ := hrU.val
      have hn0 : (refsU (r :: cul))[(0 : Int).toNat]? = some (.ref r.x) := rfl
      have c1 : @Ne Nat r.dx ou := news_apart N1 hrU.dic m4 (fun e => list_ne_dict e.symm)
      have c2 : @Ne Nat lA9 ou := Nat.ne_of_gt (lA _ mo)
      have c3 : @Ne Nat lA9 r.dx := Nat.ne_of_gt (lA _ (hU r (hP.sub r (.head _))).dic)
      have rU := hU r (hP.sub r (.head _))
      have q1 := mem_off (mem_off (mem_off (hr _ m1) (b1 r (hP.sub r (.head _)))) a1) (Nat.ne_of_lt (lA _ ht))
      have q2 := mem_off (mem_off (mem_off (hr _ m2) (b2 r (hP.sub r (.head _)))) a2) (Nat.ne_of_lt (lA _ md))
      have q3 := mem_off (mem_off (mem_off (hr _ m3) (b3 r (hP.sub r (.head _)))) hso) (Nat.ne_of_lt (lA _ ms))
      have q4 := mem_off (mem_off (mem_off (hr _ hrU.obj) (news_apart N1 hrU.obj hrU.dic inst_ne_dict)) (news_apart N1 hrU.obj m4 inst_ne_list)) (Nat.ne_of_lt (lA _ rU.obj))
      have hlc : (refsC cls).length < 1000 := by simp only [refsC, List.length_map]; omega
      have hn9 := List.nodup_cons.mp hP.nd
      have keepM : ∀ {c : Addr} {o : Obj}, (c, o) ∈ led → @Ne Nat c r.dx → @Ne Nat c ou → @Ne Nat c lA9 → (c, o) ∈ rest := fun h x y z => mem_off (mem_off (mem_off (hr _ h) x) y) z
      have hC9 : ∀ k ∈ cls, k.Ok rest := fun k hk =>
        have h := hP.hC k hk
        ⟨keepM h.obj (news_apart N1 h.obj hrU.dic inst_ne_dict) (news_apart N1 h.obj m4 inst_ne_list) (news_apart N1 h.obj m5 inst_ne_list),
          keepM h.dic (news_apart N1 h.dic hrU.dic (fun e => open_ne_closed r5 h.thr e.symm)) (news_apart N1 h.dic m4 (fun e => list_ne_dict e.symm)) (news_apart N1 h.dic m5 (fun e => list_ne_dict e.symm)), h.dk, h.thr, h.val⟩
      have hU9 : ∀ q ∈ cul, q.Ok rest t := fun q hq =>
        have h := hP.hU q (.tail _ hq)
        ⟨keepM h.obj (news_apart N1 h.obj hrU.dic inst_ne_dict) (news_apart N1 h.obj m4 inst_ne_list) (news_apart N1 h.obj m5 inst_ne_list),
          keepM h.dic (fun e => hn9.1 (List.mem_map.mpr ⟨q, hq, e⟩)) (news_apart N1 h.dic m4 (fun e => list_ne_dict e.symm)) (news_apart N1 h.dic m5 (fun e => list_ne_dict e.symm)), h.dk, h.idx, h.thr, h.val⟩
      clear N1
      k_steps
      refine' kl_popAt (its := (refsU (r :: cul)).toArray) (n := cu) (k := 0) (p := []) (q := refsU cul) (y := .ref r.x) (by k_asm) (by k_asm) rfl ?hk rfl (by k_upd) ?hz ?_
      case hk => simp [seqIndex?, refsU]
      case hz => rw [PySem.sizeLine_eq]; simp [refsU]; omega
      intro h7 F7 N7
      simp only [List.nil_append] at N7
      k_steps
      refine Stop.on ?_
      rename News _ _ _ _ => nE
      simp only [List.push_toArray] at nE
      have g5 : getL "thread" es' = some (some .none) := by k_extra "M getL"
      have g6 : getL "value" es' = some (some v) := by k_extra "M getL"
      have g7 : Dk upvKeys 900 es' := by assumption
      rw [show refsC cls ++ [.ref r.x] = refsC (cls ++ [⟨r.x, r.dx, es', n', v⟩]) from refsC_add cls ⟨r.x, r.dx, es', n', v⟩] at nE
      refine ksw_end ⟨_, cul, cu + 1, cf + 1, cls ++ [⟨r.x, r.dx, es', n', v⟩]⟩ (by k_asm) nE (fun _ h => h) trivial (List.forall_mem_nil _) ?sm ?hp (by dsimp only; exact Nat.lt_succ_self _)
      case sm =>
        intro z9 h1 h2
        have h3 : ¬ z9 = Str.ofString "upval" := fun e => by subst e; exact absurd h2 (by decide +kernel)
        simp [kstB, h3]
      case hp =>
        have up : ∀ q ∈ rest, q ∈ (r.dx, dictOf es' n') :: (ou, W.listOf (refsU cul).toArray (cu + 1)) :: (lA9, W.listOf (refsC (cls ++ [⟨r.x, r.dx, es', n', v⟩])).toArray (cf + 1)) :: rest := fun q h => .tail _ (.tail _ (.tail _ h))
        refine ⟨.tail _ (.head _), .tail _ (.tail _ (.head _)), fun q hq => (hU9 q hq).mono up, hn9.2, fun q hq => hP.sub q (.tail _ hq), ?c1, ?c2, ?c3, ?c4⟩
        case c1 =>
          intro k hk
          rcases List.mem_append.mp hk with hk | hk
          · have h := hC9 k hk
            exact ⟨up _ h.obj, up _ h.dic, h.dk, h.thr, h.val⟩
          · cases List.mem_singleton.mp hk
            exact ⟨up _ q4, .head _, g7, g5, g6⟩
        case c2 =>
          intro q hq
          rcases hP.all q hq with h | ⟨k, hk, e⟩
          · rcases List.mem_cons.mp h with rfl | h
            · exact .inr ⟨_, List.mem_append.mpr (.inr (.head _)), rfl, hv⟩
            · exact .inl h
          · exact .inr ⟨k, List.mem_append.mpr (.inl hk), e⟩
        case c3 =>
          simp only [List.length_append, List.length_singleton]
          omega
        case c4 =>
          intro q hq ha hb9
          exact up _ (keepM (hP.keep q hq ha hb9) (hb9 r (hP.sub r (.head _))) ha (Nat.ne_of_lt (lA _ hq)))
theorem c_close {t d ou st gl dg hp dh : Addr} {es eg eh : List DictEntry} {n nu nv ng nh : Nat} {ul : List U} {vs : List Value} {i : Int} {ti : Tok} {v5 : Value}
    (B : Below A₀ base outer h₀) (F : Fr h₀ L s.heap m) (X : (KT w.params).In h₀) (N : News h₀ L s.heap news) (T' : Top p loose mean mg mb h₀) (hkk : cs.kind = .function)
    (ht : (t, instObj 403 d) ∈ news) (md : (d, dictOf es n) ∈ news) (mo : (ou, W.listOf (refsU ul).toArray nu) ∈ news) (ms : (st, W.listOf vs.toArray nv) ∈ news) (hso : @Ne Nat st ou)
    (mg' : (gl, instObj 429 dg) ∈ news) (mdg : (dg, dictOf eg ng) ∈ news) (mh : (hp, instObj 840 dh) ∈ news) (mdh : (dh, dictOf eh nh) ∈ news)
    (hU : ∀ r ∈ ul, r.Ok news t) (hnd : (ul.map (·.dx)).Nodup) (hi : ∀ r ∈ ul, i ≤ r.i ∧ 0 ≤ r.i ∧ r.i < vs.length)
    (hb : Dk thrKeys 900 es) (e1 : getL "open_upvals" es = some (some (.ref ou))) (e2 : getL "stack" es = some (some (.ref st))) (e3 : getL "glob" es = some (some (.ref gl)))
    (hbg : Dk glbKeys 900 eg) (e4 : getL "heap" eg = some (some (.ref hp))) (hbh : Dk plhKeys 900 eh) (e5 : getL "total" eh = some (some v5)) (h2 : ul.length < 1000) (h3 : vs.length < 1000)
    (hd : dp + 40 < recursionLimit) (hu : un + 300 < cLine)
    (hret : ∀ nu' (cls : List C) news' h' tk', cls.length = ul.length → (∀ k ∈ cls, k.Ok news') → (∀ r ∈ ul, ∃ k ∈ cls, k.x = r.x ∧ vs[r.i.toNat]? = some k.v) →
      (ou, W.listOf ([] : List Value).toArray nu') ∈ news' → (∀ q ∈ news, q.1 ≠ ou → (∀ r ∈ ul, q.1 ≠ r.dx) → q ∈ news') → Fr h₀ L h' m → News h₀ L h' news' → Q .none { s with heap := h', toks := tk' }) :
    wpAny (model prog w) (ktrTop dp un gd cn cs L a ccd cl outer) (call (.ref 447) [.ref t, .int i ti]) Q E s := by
  have hMk := kstMark
  have hSt := StopHere.mk
  have kp : ∀ {c : Addr} {C dx : Addr}, (c, instObj C dx) ∈ news → (@Ne Nat c ou) ∧ ∀ r ∈ ul, @Ne Nat c r.dx := fun h => ⟨news_apart N h mo inst_ne_list, fun r hr => news_apart N h (hU r hr).dic inst_ne_dict⟩
  have kd : ∀ {c : Addr} {e : List DictEntry} {k : Nat} {y : Str} {v : Value}, (c, dictOf e k) ∈ news → getL y e = some (some v) → upvKeys.contains y = false → (@Ne Nat c ou) ∧ ∀ r ∈ ul, @Ne Nat c r.dx := fun h hy hc => ⟨news_apart N h mo (fun e => list_ne_dict e.symm), fun r hr => news_apart N h (hU r hr).dic (dict_ne hy (hU r hr).dk hc)⟩
  have k1 := kp ht
  have k2 := kd md e1 (by decide +kernel)
  have k3 := kp mg'
  have k4 := kd mdg e4 (by decide +kernel)
  have k5 := kp mh
  have k6 := kd mdh e5 (by decide +kernel)
  refine wpAny_call ?_
  k_dflt (k_extra "M enter")
  k_steps
  refine Stop.on ?_
  with_unfolding_all refine for_invF (by k_asm) rfl rfl rfl ?_
  k_steps
  refine Stop.on ?_
  refine' c_take (es := es) (n := n) (ul := ul) (vs := vs) (st := st) ?B ?F ?X ?N ?T ?hkk ?ht ?md ?mo ?ms hso hU hnd hi ?hb ?e1 ?e2 h2 h3 ?hd ?hu ?ret
  k_extra "M pre"
  case ht => k_mem
  case md => k_mem
  case mo => k_mem
  case ms => k_mem
  case hb => k_asm
  case e1 => k_extra "M getL"
  case e2 => k_extra "M getL"
  intro f nf nu' cls news' h' tk' hf hlen hC hall hou hkeep F9 N9
  try dsimp only
  have w1 := hkeep _ ht k1.1 k1.2
  have w2 := hkeep _ md k2.1 k2.2
  have w3 := hkeep _ mg' k3.1 k3.2
  have w4 := hkeep _ mdg k4.1 k4.2
  have w5 := hkeep _ mh k5.1 k5.2
  have w6 := hkeep _ mdh k6.1 k6.2
  k_steps
  refine Stop.on ?_
  refine' for_list (L := L') (σ := Unit) (vs := refsC cls) (nn := nf) rfl (fun _ => news') (fun _ => []) [] (fun _ _ => True) () ?hh (fun _ _ _ => hf) ?F ?N (List.forall_mem_nil _) trivial ?turn ?done
  case hh => with_unfolding_all rfl
  case F => k_asm
  case N => k_asm
  case turn =>
    rintro c i9 v I oI u h tk hv - hne F1 N1
    dsimp only at F1 N1 hne
    clear N9 F9
    k_steps
    refine my_end () (by k_asm) (by k_asm) (.head _) (fun p hp => ⟨.tail _ hp, hne p hp⟩) (List.forall_mem_nil _) ?sm trivial
    case sm =>
      intro z9 h1 h2 h3
      simp [kstB, h1]
  case done =>
    rintro c u h tk - F1 N1
    dsimp only at F1 N1
    k_steps
    exact hret nu' cls news' _ _ hlen hC hall hou hkeep (by k_asm) (by k_asm)
theorem last_add (y : Value) : ∀ p : List Value, kl_last (p ++ [y]) = some (p, y)
  | [] => rfl
  | x :: r => by
    have h := last_add y r
    cases hr : r ++ [y] with
    | nil => simp at hr
    | cons z l =>
      rw [List.cons_append, hr]
      rw [hr] at h
      unfold kl_last
      rw [h]
theorem c_unwound {fr : Addr} {fs : List Value} {nf : Nat} {i : Int} {ti : Tok}
    (B : Below A₀ base outer h₀) (F : Fr h₀ L s.heap m) (X : (KT w.params).In h₀) (N : News h₀ L s.heap news) (T' : Top p loose mean mg mb h₀) (hkk : cs.kind = .function)
    (mf : (fr, W.listOf fs.toArray nf) ∈ news) (h2 : fs.length < 1000) (hi : i = 1)
    (hd : dp + 10 < recursionLimit) (hu : un + 50 < cLine)
    (hret : ∀ nf' news' h' tk', (fr, W.listOf (fs.take 1).toArray nf') ∈ news' → (∀ q ∈ news, q.1 ≠ fr → q ∈ news') → Fr h₀ L h' m → News h₀ L h' news' → Q .none { s with heap := h', toks := tk' }) :
    wpAny (model prog w) (ktrTop dp un gd cn cs L a ccd cl outer) (call (.ref 28) [.ref fr, .int i ti]) Q E s := by
  have hMk := kstMark
  have hSt := StopHere.mk
  obtain ⟨rest, hoff, N2, hr⟩ := news_split N [(fr, W.listOf fs.toArray nf)] (List.forall_mem_cons.mpr ⟨mf, List.forall_mem_nil _⟩)
  simp only [List.map_cons, List.map_nil, List.cons_append, List.nil_append] at hoff N2 hr
  clear N
  refine wpAny_call ?_
  k_dflt (k_extra "M enter")
  k_steps
  refine Stop.on ?_
  rename Fr _ _ _ _ => lF
  rename News _ _ _ _ => lN
  with_unfolding_all refine' ksw_while (σ := List Value × Nat) (fun c => (fr, W.listOf c.1.toArray c.2) :: rest) (fun c => []) (fun _ => True) [] (fun c => c.1.take 1 = fs.take 1 ∧ c.1.length < 1000) (fun c => c.1.length) (fs, nf) lF lN trivial (List.forall_mem_nil _) ⟨rfl, h2⟩ ?turn
  clear lF lN
  rintro ⟨cv, cn9⟩ u h tk - hP F1 N1
  dsimp only at hP F1 N1
  obtain ⟨hP, hl⟩ := hP
  have keep : ∀ {o : Obj} (q : Addr × Obj), q ∈ news → q.1 ≠ fr → q ∈ (fr, o) :: rest := fun q hq hne => .tail _ (mem_off (hr q hq) hne)
  rcases List.eq_nil_or_concat cv with rfl | ⟨q, y, hc⟩
  · simp only [List.length_nil] at hl
    k_steps
    exact hret cn9 _ _ _ (by rw [← hP]; exact .head _) keep (by k_asm) (by k_asm)
  · rw [List.concat_eq_append] at hc
    subst hc
    have hl2 : (q ++ [y]).length = q.length + 1 := by simp
    k_steps
    · refine' kl_pop (its := (q ++ [y]).toArray) (n := cn9) (p := q) (y := y) (by k_asm) (by k_asm) (last_add y q) (by k_upd) ?hz ?_
      case hz => rw [PySem.sizeLine_eq]; simp; omega
      intro h7 F7 N7
      k_steps
      refine Stop.on ?_
      refine ksw_end (q, cn9 + 1) (by k_asm) (by k_asm) (fun _ h => h) trivial (List.forall_mem_nil _) ?sm ⟨?hp, by dsimp only; omega⟩ (by dsimp only; omega)
      case sm =>
        intro z9 h1 h3
        simp [kstB]
      case hp =>
        have hq : 1 ≤ q.length := by omega
        dsimp only
        rw [← hP, List.take_append_of_le_length hq]
    · have hq : (q ++ [y]).take 1 = q ++ [y] := List.take_of_length_le (by omega)
      exact hret cn9 _ _ _ (by rw [← hP, hq]; exact .head _) keep (by k_asm) (by k_asm)
theorem c_settop {t d st : Addr} {es : List DictEntry} {n nv : Nat} {vs : List Value} {i T : Int} {ti tT : Tok}
    (B : Below A₀ base outer h₀) (F : Fr h₀ L s.heap m) (X : (KT w.params).In h₀) (N : News h₀ L s.heap news) (T' : Top p loose mean mg mb h₀) (hkk : cs.kind = .function)
    (ht : (t, instObj 403 d) ∈ news) (md : (d, dictOf es n) ∈ news) (ms : (st, W.listOf vs.toArray nv) ∈ news)
    (e1 : getL "top" es = some (some (.int T tT))) (e2 : getL "stack" es = some (some (.ref st))) (hb : Dk thrKeys 900 es) (h0 : 0 ≤ i) (h1 : i ≤ T) (h2 : T ≤ vs.length) (h3 : vs.length < 1000)
    (hd : dp + 10 < recursionLimit) (hu : un + 50 < cLine)
    (hret : ∀ (vs' : List Value) (es' : List DictEntry) (n' : Nat) (news' : List (Addr × Obj)) h' tk', vs'.length = vs.length → (∀ j : Nat, vs'[j]? = if i ≤ j ∧ (j : Int) < T then some .none else vs[j]?) → (st, W.listOf vs'.toArray nv) ∈ news' → (d, dictOf es' n') ∈ news' →
      getL "top" es' = some (some (.int i ti)) → Sm "top" es' es → Dk thrKeys 900 es' → (∀ q ∈ news, q.1 ≠ st → q.1 ≠ d → q ∈ news') → Fr h₀ L h' m → News h₀ L h' news' → Q .none { s with heap := h', toks := tk' }) :
    wpAny (model prog w) (ktrTop dp un gd cn cs L a ccd cl outer) (call (.ref 351) [.ref t, .int i ti]) Q E s := by
  have hMk := kstMark
  have hSt := StopHere.mk
  have a1 : @Ne Nat t d := news_apart N ht md inst_ne_dict
  have a2 : @Ne Nat t st := news_apart N ht ms inst_ne_list
  have a3 : @Ne Nat st d := news_apart N ms md list_ne_dict
  obtain ⟨rest, hoff, N2, hr⟩ := news_split N [(d, dictOf es n), (st, W.listOf vs.toArray nv), (t, instObj 403 d)] (all3 md ms ht)
  simp only [List.map_cons, List.map_nil, List.cons_append, List.nil_append] at hoff N2 hr
  clear N
  refine wpAny_call ?_
  k_dflt (k_extra "M enter")
  k_steps
  refine Stop.on ?_
  with_unfolding_all refine for_invF (by k_asm) rfl rfl rfl ?_
  k_steps
  refine Stop.on ?_
  rename IsRange _ _ _ _ _ _ _ _ => hR
  rename Fr _ _ _ _ => lF
  rename News _ _ _ _ => lN
  have q1 : (if T < i then T else i) = i := if_neg (by omega)
  have q2 : (if T > i then T else i) = T := by split <;> omega
  have q3 : (if (vs.length : Int) < T then (vs.length : Int) else T) = T := if_neg (by omega)
  rw [q1, q2, q3] at hR
  refine' for_range (σ := List Value) (n := (T - i).toNat) ?hL (fun c => (d, dictOf es n) :: (st, W.listOf c.toArray nv) :: (t, instObj 403 d) :: rest) (fun _ => []) [] (fun k c => c.length = vs.length ∧ ∀ j : Nat, c[j]? = if i ≤ j ∧ (j : Int) < i + (k : Int) then some .none else vs[j]?) vs ?hh (by first | exact hR | assumption) (range_small h0 h1 (by omega)) (range_size h1) (by k_asm) ?N (List.forall_mem_nil _) ⟨rfl, ?h0⟩ ?turn ?done
  case hL => exact rfl
  case N => exact news_sub lN (by k_sub)
  case hh => with_unfolding_all rfl
  case h0 => exact fun j => (if_neg (by omega)).symm
  case turn =>
    rintro c k tk1 I oI u h tk hk ⟨hl, hc⟩ hne F1 N1
    try dsimp only at F1 N1 hne
    have i1 : @Ne Nat st I := hne (st, _) (.tail _ (.head _))
    have i2 : @Ne Nat d I := hne (d, _) (.head _)
    have i3 : @Ne Nat t I := hne (t, _) (.tail _ (.tail _ (.head _)))
    clear lF lN
    k_steps
    refine my_end (c.set (i + (k : Int)).toNat .none) (by k_asm) (by k_asm) (.head _) ?hI (List.forall_mem_nil _) ?sm ⟨by rw [List.length_set]; exact hl, ?hc⟩
    case hI => exact List.forall_mem_cons.mpr ⟨⟨.tail _ (.head _), i2⟩, List.forall_mem_cons.mpr ⟨⟨.tail _ (.tail _ (.head _)), i1⟩, List.forall_mem_cons.mpr ⟨⟨.tail _ (.tail _ (.tail _ (.head _))), i3⟩, fun p hp => ⟨.tail _ (.tail _ (.tail _ (.tail _ hp))), hne p (.tail _ (.tail _ (.tail _ hp)))⟩⟩⟩⟩
    case sm =>
      intro z9 h1 h2 h3
      simp [kstB, h1]
    case hc =>
      intro j
      rw [List.getElem?_set]
      have hc := hc j
      by_cases e : (i + (k : Int)).toNat = j
      · rw [if_pos e, if_pos (by omega), if_pos (by omega)]
      · rw [if_neg e, hc]
        by_cases e2 : i ≤ (j : Int) ∧ (j : Int) < i + (k : Int)
        · rw [if_pos e2, if_pos (by omega)]
        · rw [if_neg e2, if_neg (by omega)]
  case done =>
    rintro c u h tk ⟨hl, hc⟩ F1 N1
    try dsimp only at F1 N1
    clear lF lN
    k_steps
    refine' hret c _ _ _ _ _ hl ?h1 ?h2 ?h3 ?h4 ?h5 ?h6 ?h7 ?h8 ?h9
    case h9 => k_asm
    case h8 => k_asm
    case h1 =>
      intro j
      rw [hc j]
      by_cases e2 : i ≤ (j : Int) ∧ (j : Int) < T
      · rw [if_pos e2, if_pos (by omega)]
      · rw [if_neg e2, if_neg (by omega)]
    case h2 => exact .tail _ (.head _)
    case h3 => exact .head _
    case h4 => k_extra "M getL"
    case h5 => assumption
    case h6 => assumption
    case h7 => exact fun q hq x y => .tail _ (.tail _ ((List.mem_cons.mp (mem_off (mem_off (hr q hq) y) x)).elim (fun e => e ▸ .head _) (fun e => .tail _ e)))
theorem c_grounded {t d ou st fr gl dg hp dh : Addr} {es eg eh : List DictEntry} {n nu nv nf ng nh : Nat} {ul : List U} {vs fs : List Value} {v5 u1 u2 u3 u4 : Value} {T : Int} {tT : Tok}
    (B : Below A₀ base outer h₀) (F : Fr h₀ L s.heap m) (X : (KT w.params).In h₀) (N : News h₀ L s.heap news) (T' : Top p loose mean mg mb h₀) (hkk : cs.kind = .function)
    (ht : (t, instObj 403 d) ∈ news) (md : (d, dictOf es n) ∈ news) (mo : (ou, W.listOf (refsU ul).toArray nu) ∈ news) (ms : (st, W.listOf vs.toArray nv) ∈ news) (mf : (fr, W.listOf fs.toArray nf) ∈ news) (hso : @Ne Nat st ou) (hsf : @Ne Nat st fr) (hfo : @Ne Nat fr ou)
    (mg' : (gl, instObj 429 dg) ∈ news) (mdg : (dg, dictOf eg ng) ∈ news) (mh : (hp, instObj 840 dh) ∈ news) (mdh : (dh, dictOf eh nh) ∈ news)
    (hU : ∀ r ∈ ul, r.Ok news t) (hnd : (ul.map (·.dx)).Nodup) (hi : ∀ r ∈ ul, 1 ≤ r.i ∧ 0 ≤ r.i ∧ r.i < vs.length)
    (hb : Dk thrKeys 900 es) (e1 : getL "open_upvals" es = some (some (.ref ou))) (e2 : getL "stack" es = some (some (.ref st))) (e3 : getL "glob" es = some (some (.ref gl)))
    (e6 : getL "frames" es = some (some (.ref fr))) (e7 : getL "top" es = some (some (.int T tT))) (y1 : getL "ccalls" es = some (some u1)) (y2 : getL "handling" es = some (some u2)) (y3 : getL "is_over" es = some (some u3)) (y4 : getL "answers" es = some (some u4))
    (hbg : Dk glbKeys 900 eg) (e4 : getL "heap" eg = some (some (.ref hp))) (hbh : Dk plhKeys 900 eh) (e5 : getL "total" eh = some (some v5)) (h2 : ul.length < 1000) (h3 : vs.length < 1000) (h4 : fs.length < 1000) (hT0 : 0 ≤ T) (hT1 : T ≤ vs.length)
    (hd : dp + 60 < recursionLimit) (hu : un + 600 < cLine)
    (hret : ∀ (cls : List C) (vs' : List Value) (es' : List DictEntry) (n' nu' nf' : Nat) (news' : List (Addr × Obj)) tT' tc th h' tk', cls.length = ul.length → (∀ k ∈ cls, k.Ok news') → (∀ r ∈ ul, ∃ k ∈ cls, k.x = r.x ∧ vs[r.i.toNat]? = some k.v) →
      vs'.length = vs.length → (∀ j : Nat, vs'[j]? = if (if (1 : Int) < T then 1 else T) ≤ j ∧ (j : Int) < T then some .none else vs[j]?) →
      (t, instObj 403 d) ∈ news' → (d, dictOf es' n') ∈ news' → (ou, W.listOf ([] : List Value).toArray nu') ∈ news' → (st, W.listOf vs'.toArray nv) ∈ news' → (fr, W.listOf (fs.take 1).toArray nf') ∈ news' →
      Dk thrKeys 900 es' → getL "top" es' = some (some (.int (if (1 : Int) < T then 1 else T) tT')) → getL "stack" es' = some (some (.ref st)) → getL "frames" es' = some (some (.ref fr)) → getL "open_upvals" es' = some (some (.ref ou)) →
      getL "ccalls" es' = some (some (.int 0 tc)) → getL "handling" es' = some (some (.int 0 th)) → getL "answers" es' = some (some .none) →
      (∀ q ∈ news, q.1 ≠ ou → (∀ r ∈ ul, q.1 ≠ r.dx) → q.1 ≠ fr → q.1 ≠ st → q.1 ≠ d → q ∈ news') → Fr h₀ L h' m → News h₀ L h' news' → Q .none { s with heap := h', toks := tk' }) :
    wpAny (model prog w) (ktrTop dp un gd cn cs L a ccd cl outer) (call (.ref 454) [.ref t]) Q E s := by
  have hMk := kstMark
  have hSt := StopHere.mk
  have N0 := N
  have kp : ∀ {c : Addr} {C dx : Addr}, (c, instObj C dx) ∈ news → (@Ne Nat c ou) ∧ (∀ r ∈ ul, @Ne Nat c r.dx) ∧ @Ne Nat c fr := fun h => ⟨news_apart N0 h mo inst_ne_list, fun r hr => news_apart N0 h (hU r hr).dic inst_ne_dict, news_apart N0 h mf inst_ne_list⟩
  have k1 := kp ht
  have k2 : (@Ne Nat d ou) ∧ (∀ r ∈ ul, @Ne Nat d r.dx) ∧ @Ne Nat d fr := ⟨news_apart N0 md mo (fun e => list_ne_dict e.symm), fun r hr => news_apart N0 md (hU r hr).dic (dict_ne e1 (hU r hr).dk (by decide +kernel)), news_apart N0 md mf (fun e => list_ne_dict e.symm)⟩
  have k3 : ∀ r ∈ ul, @Ne Nat st r.dx := fun r hr => news_apart N0 ms (hU r hr).dic list_ne_dict
  have k4 : ∀ r ∈ ul, @Ne Nat fr r.dx := fun r hr => news_apart N0 mf (hU r hr).dic list_ne_dict
  clear N0
  refine wpAny_call ?_
  k_dflt (k_extra "M enter")
  k_steps
  refine Stop.on ?_
  refine' c_close (es := es) (n := n) (ul := ul) (vs := vs) (st := st) (eg := eg) (eh := eh) ?B ?F ?X ?N ?T ?hkk ?ht ?md ?mo ?ms hso ?mg ?mdg ?mh ?mdh hU hnd hi ?hb ?e1 ?e2 ?e3 hbg ?e4 hbh e5 h2 h3 ?hd ?hu ?ret
  k_extra "M pre"
  case ht => k_mem
  case md => k_mem
  case mo => k_mem
  case ms => k_mem
  case mg => k_mem
  case mdg => k_mem
  case mh => k_mem
  case mdh => k_mem
  case hb => k_asm
  case e1 => k_extra "M getL"
  case e2 => k_extra "M getL"
  case e3 => k_extra "M getL"
  case e4 => k_extra "M getL"
  intro nu' cls n1 h1 tk1 hlen hC hall hou hkeep F1 N1
  try dsimp only
  have w1 := hkeep _ ht k1.1 k1.2.1
  have w2 := hkeep _ md k2.1 k2.2.1
  have w3 := hkeep _ ms hso k3
  have w4 := hkeep _ mf hfo k4
  k_steps
  refine Stop.on ?_
  refine' c_unwound (fs := fs) (nf := nf) ?B ?F ?X ?N ?T ?hkk ?mf h4 rfl ?hd ?hu ?ret2
  k_extra "M pre"
  case mf => k_mem
  intro nf' n2 h2' tk2 hfr hkeep2 F2 N2
  try dsimp only
  have z1 := hkeep2 _ w1 k1.2.2
  have z2 := hkeep2 _ w2 k2.2.2
  have z3 := hkeep2 _ w3 hsf
  have z4 := hkeep2 _ hou hfo.symm
  obtain ⟨rest, hoff, N3, hr⟩ := news_split N2 [(d, dictOf es n)] (List.forall_mem_cons.mpr ⟨z2, List.forall_mem_nil _⟩)
  simp only [List.map_cons, List.map_nil, List.cons_append, List.nil_append] at hoff N3 hr
  have a1 : @Ne Nat t d := news_apart N2 z1 z2 inst_ne_dict
  have a2 : @Ne Nat st d := news_apart N2 z3 z2 list_ne_dict
  have a3 : @Ne Nat fr d := news_apart N2 hfr z2 list_ne_dict
  have a4 : @Ne Nat ou d := news_apart N2 z4 z2 list_ne_dict
  have x1 := mem_off (hr _ z1) a1
  have x2 := mem_off (hr _ z3) a2
  have x3 := mem_off (hr _ hfr) a3
  have x4 := mem_off (hr _ z4) a4
  have nld : ∀ {xs : Array Value} {k j : Nat} {e : List DictEntry}, dictOf e j ≠ W.listOf xs k := fun e => list_ne_dict e.symm
  have hC2 : ∀ k ∈ cls, k.Ok n2 := fun k hk =>
    have h := hC k hk
    ⟨hkeep2 _ h.obj (news_apart N1 h.obj w4 inst_ne_list), hkeep2 _ h.dic (news_apart N1 h.dic w4 nld), h.dk, h.thr, h.val⟩
  have hC3 : ∀ k ∈ cls, k.Ok rest := fun k hk =>
    have h := hC2 k hk
    ⟨mem_off (hr _ h.obj) (news_apart N2 h.obj z2 inst_ne_dict), mem_off (hr _ h.dic) (news_apart N2 h.dic z2 (fun e => dict_ne e1 h.dk (by decide +kernel) e.symm)), h.dk, h.thr, h.val⟩
  have hC4 : ∀ k ∈ cls, @Ne Nat k.x st ∧ @Ne Nat k.dx st := fun k hk =>
    have h := hC2 k hk
    ⟨news_apart N2 h.obj z3 inst_ne_list, news_apart N2 h.dic z3 nld⟩
  have b1 : @Ne Nat t st := news_apart N2 z1 z3 inst_ne_list
  have b3 : @Ne Nat fr st := hsf.symm
  have b4 : @Ne Nat ou st := hso.symm
  clear N2 N1
  k_steps
  refine Stop.on ?_
  rename News _ _ _ _ => lN
  refine' c_settop (es := es') (n := n') (vs := vs) (nv := nv) (st := st) (T := T) (d := d) ?B ?F ?X ?N ?T ?hkk ?ht ?md ?ms ?e1 ?e2 ?hb (by split <;> omega) (by split <;> omega) hT1 h3 ?hd ?hu ?ret3
  k_extra "M pre"
  case ht => k_mem
  case md => k_mem
  case ms => k_mem
  case e1 => k_extra "M getL"
  case e2 => k_extra "M getL"
  case hb => assumption
  intro vs' es3 n3 news3 h3' tk3 hvl hvc hst3 hd3 htop hsm hdk hkeep3 F3 N3
  try dsimp only
  have kp3 : ∀ {c : Addr} {o : Obj}, (c, o) ∈ rest → @Ne Nat c st → (c, o) ∈ news3 := fun h hs => hkeep3 _ (.tail _ (.tail _ h)) hs (hoff _ h d (.head _))
  have g1 := kp3 x1 b1
  have g2 := kp3 x3 b3
  have g3 := kp3 x4 b4
  clear lN
  k_steps
  refine' hret cls vs' es3 n3 nu' nf' news3 _ _ _ _ _ hlen ?p1 hall hvl hvc g1 hd3 g3 hst3 g2 hdk htop ?p2 ?p3 ?p4 ?p5 ?p6 ?p7 ?p8 ?p9 ?p10
  case p9 => k_asm
  case p10 => k_asm
  case p1 =>
    intro k hk
    have h := hC3 k hk
    exact ⟨kp3 h.obj (hC4 k hk).1, kp3 h.dic (hC4 k hk).2, h.dk, h.thr, h.val⟩
  case p2 => k_extra "M getL"
  case p3 => k_extra "M getL"
  case p4 => k_extra "M getL"
  case p5 => k_extra "M getL"
  case p6 => k_extra "M getL"
  case p7 => k_extra "M getL"
  case p8 => exact fun q hq f1 f2 f3 f4 f5 => kp3 (mem_off (hr _ (hkeep2 _ (hkeep _ hq f1 f2) f3)) f5) f4
theorem and_mask (x : Int) : Builtin.bitAnd x 4294967295 = x % 4294967296 := by
  have h := kbt_mask x 32
  simpa using h
theorem and_mask_in (x : Int) : 0 ≤ Builtin.bitAnd x 4294967295 ∧ Builtin.bitAnd x 4294967295 < 4294967296 := by
  rw [and_mask]; omega
theorem c_hash {t0 : Tok}
    (B : Below A₀ base outer h₀) (F : Fr h₀ L s.heap m) (X : (KT w.params).In h₀) (N : News h₀ L s.heap news) (T' : Top p loose mean mg mb h₀) (hkk : cs.kind = .function)
    (hd : dp + 5 < recursionLimit) (hu : un + 40 < cLine)
    (hret : ∀ v tk h' tk', Fr h₀ L h' m → News h₀ L h' news → Q (.int v tk) { s with heap := h', toks := tk' }) :
    wpAny (model prog w) (ktrTop dp un gd cn cs L a ccd cl outer) (call (.ref 161) [.bytes #[95, 95, 109, 111, 100, 101] t0]) Q E s := by
  have hMk := kstMark
  have hSt := StopHere.mk
  have hb6 : KBw.bInts #[95, 95, 109, 111, 100, 101] = [95, 95, 109, 111, 100, 101] := rfl
  refine wpAny_call ?_
  k_dflt (k_extra "M enter")
  k_steps
  refine Stop.on ?_
  rename Fr _ _ _ _ => lF
  rename News _ _ _ _ => lN
  have lN := news_sub (l' := news) lN (by k_sub)
  with_unfolding_all refine' ksw_while (σ := (Int × Tok) × (Nat × Tok)) (fun _ => news) (fun c => [(Str.ofString "found", .int c.1.1 c.1.2), (Str.ofString "at", .int ((c.2.1 : Nat) : Int) c.2.2)]) (fun _ => True) [] (fun c => 0 ≤ c.1.1 ∧ c.1.1 < 4294967296 ∧ c.2.1 ≤ 6) (fun c => c.2.1) ((6, _), (6, _)) lF lN trivial ?hk ?h0 ?turn
  case hk => exact List.forall_mem_cons.mpr ⟨by with_unfolding_all rfl, List.forall_mem_cons.mpr ⟨by with_unfolding_all rfl, List.forall_mem_nil _⟩⟩
  case h0 => simp
  case turn =>
    clear lF lN
    rintro ⟨⟨f, tf⟩, ⟨k, tk0⟩⟩ u h tk - ⟨f0, f1, hk6⟩ F1 N1
    dsimp only at f0 f1 hk6 F1 N1
    k_steps
    · rename _ ≤ (k : Int) => hk1
      have hk1 : (1 : Int) ≤ k := hk1
      k_steps
      refine Stop.on ?_
      refine' ksw_end ((_, _), (k - 1, _)) (by k_asm) (by k_asm) (fun _ h => h) trivial (List.forall_mem_cons.mpr ⟨by with_unfolding_all rfl, List.forall_mem_cons.mpr ⟨?e, List.forall_mem_nil _⟩⟩) (by k_extra "M same") ⟨?a, ?b, by dsimp only; omega⟩ (by dsimp only; omega)
      case a => exact (and_mask_in _).1
      case b => exact (and_mask_in _).2
      case e =>
        have e1 : ((k - 1 : Nat) : Int) = (k : Int) - 1 := by omega
        dsimp only
        rw [e1]
        exact if_pos rfl
    · exact hret _ _ _ _ (by k_asm) (by k_asm)
noncomputable def tabKeys : List Str := ["number", "mark", "size", "meta", "flags", "weak", "array", "nodes", "log_nodes", "free"]
noncomputable def nodKeys : List Str := ["key", "value", "next"]
/-- a table without array as it lies -/
structure Tab (news : List (Addr × Obj)) (x d : Addr) (es : List DictEntry) (n : Nat) (ar nl : Addr) (na nn : Nat) (nodes : List Value) : Prop where
  obj : (x, instObj 737 d) ∈ news
  dic : (d, dictOf es n) ∈ news
  dk : Dk tabKeys 900 es
  arr : getL "array" es = some (some (.ref ar))
  nod : getL "nodes" es = some (some (.ref nl))
  marr : (ar, W.listOf ([] : List Value).toArray na) ∈ news
  mnod : (nl, W.listOf nodes.toArray nn) ∈ news
  flg : ∃ u, getL "flags" es = some (some u)
  log : ∃ u, getL "log_nodes" es = some (some u)
  fre : ∃ u, getL "free" es = some (some u)
  siz : ∃ u, getL "size" es = some (some u)
theorem Tab.mono {news news' : List (Addr × Obj)} {x d : Addr} {es : List DictEntry} {n : Nat} {ar nl : Addr} {na nn : Nat} {nodes : List Value} (h : Tab news x d es n ar nl na nn nodes) (hs : ∀ q ∈ news, q ∈ news') : Tab news' x d es n ar nl na nn nodes :=
  ⟨hs _ h.obj, hs _ h.dic, h.dk, h.arr, h.nod, hs _ h.marr, hs _ h.mnod, h.flg, h.log, h.fre, h.siz⟩
/-- a node as it lies -/
structure Nod (news : List (Addr × Obj)) (x d : Addr) (es : List DictEntry) (n : Nat) (k v : Value) : Prop where
  obj : (x, instObj 506 d) ∈ news
  dic : (d, dictOf es n) ∈ news
  dk : Dk nodKeys 900 es
  key : getL "key" es = some (some k)
  val : getL "value" es = some (some v)
theorem and_zero (x : Int) : Builtin.bitAnd x (1 - 1) = 0 := by
  have h := kbt_mask x 0
  have e : (2 : Int) ^ 0 - 1 = 1 - 1 := by decide
  rw [e] at h
  rw [h]
  have : (2 : Int) ^ 0 = 1 := by decide
  rw [this]
  omega
theorem c_main {x d ar nl nd : Addr} {es : List DictEntry} {n na nn : Nat} {t0 : Tok}
    (B : Below A₀ base outer h₀) (F : Fr h₀ L s.heap m) (X : (KT w.params).In h₀) (N : News h₀ L s.heap news) (T' : Top p loose mean mg mb h₀) (hkk : cs.kind = .function)
    (hT : Tab news x d es n ar nl na nn [.ref nd]) (hd : dp + 8 < recursionLimit) (hu : un + 60 < cLine)
    (hret : ∀ tk h' tk', Fr h₀ L h' m → News h₀ L h' news → Q (.int 0 tk) { s with heap := h', toks := tk' }) :
    wpAny (model prog w) (ktrTop dp un gd cn cs L a ccd cl outer) (call (.ref 553) [.ref x, .bytes #[95, 95, 109, 111, 100, 101] t0]) Q E s := by
  have hMk := kstMark
  have hSt := StopHere.mk
  have hb6 : KBw.bInts #[95, 95, 109, 111, 100, 101] = [95, 95, 109, 111, 100, 101] := rfl
  obtain ⟨t1, t2, t3, t4, t5, t6, t7, -, -, -, -⟩ := hT
  refine wpAny_call ?_
  k_dflt (k_extra "M enter")
  k_steps
  refine Stop.on ?_
  refine' c_hash ?B ?F ?X ?N ?T ?hkk ?hd ?hu ?ret
  k_extra "M pre"
  intro v tk h' tk' F1 N1
  try dsimp only
  k_steps
  refine (?_ : ∀ z : Int, z = 0 → Q (.int z _) _) _ (and_zero v)
  rintro _ rfl
  exact hret _ _ _ (by k_asm) (by k_asm)
theorem c_find0 {x d ar nl : Addr} {es : List DictEntry} {n na nn : Nat} {t0 : Tok}
    (B : Below A₀ base outer h₀) (F : Fr h₀ L s.heap m) (X : (KT w.params).In h₀) (N : News h₀ L s.heap news) (T' : Top p loose mean mg mb h₀) (hkk : cs.kind = .function)
    (hT : Tab news x d es n ar nl na nn []) (hd : dp + 8 < recursionLimit) (hu : un + 60 < cLine)
    (hret : ∀ tk h' tk', Fr h₀ L h' m → News h₀ L h' news → Q (.int (-1) tk) { s with heap := h', toks := tk' }) :
    wpAny (model prog w) (ktrTop dp un gd cn cs L a ccd cl outer) (call (.ref 560) [.ref x, .bytes #[95, 95, 109, 111, 100, 101] t0]) Q E s := by
  have hMk := kstMark
  have hSt := StopHere.mk
  obtain ⟨t1, t2, t3, t4, t5, t6, t7, -, -, -, -⟩ := hT
  refine wpAny_call ?_
  k_dflt (k_extra "M enter")
  k_steps
  exact hret _ _ _ (by k_asm) (by k_asm)
theorem news_drop2 {a b : Addr × Obj} {l : List (Addr × Obj)} {h : Heap} (N : News h₀ L h (a :: b :: l)) : News h₀ L h (a :: l) := fun q hq => N q ((List.mem_cons.mp hq).elim (fun e => e ▸ .head _) fun h => .tail _ (.tail _ h))
theorem c_countA {x d ar nl ct : Addr} {es : List DictEntry} {n na nn : Nat}
    (B : Below A₀ base outer h₀) (F : Fr h₀ L s.heap m) (X : (KT w.params).In h₀) (N : News h₀ L s.heap news) (T' : Top p loose mean mg mb h₀) (hkk : cs.kind = .function)
    (hT : Tab news x d es n ar nl na nn []) (hd : dp + 8 < recursionLimit) (hu : un + 60 < cLine)
    (hret : ∀ tk h' tk', Fr h₀ L h' m → News h₀ L h' news → Q (.int 0 tk) { s with heap := h', toks := tk' }) :
    wpAny (model prog w) (ktrTop dp un gd cn cs L a ccd cl outer) (call (.ref 637) [.ref x, .ref ct]) Q E s := by
  have hMk := kstMark
  have hSt := StopHere.mk
  obtain ⟨t1, t2, t3, t4, t5, t6, t7, -, -, -, -⟩ := hT
  refine wpAny_call ?_
  k_dflt (k_extra "M enter")
  k_steps
  refine Stop.on ?_
  with_unfolding_all refine for_invF (by k_asm) rfl rfl rfl ?_
  k_steps
  refine Stop.on ?_
  rename IsRange _ _ _ _ _ _ _ _ => hR
  rename Fr _ _ _ _ => lF
  rename News _ _ _ _ => lN
  refine' for_range (σ := Unit) (n := 27) ?hL (fun _ => news) (fun _ => []) [] (fun k _ => k = 0) () ?hh (by first | exact hR | assumption) (by decide) (by decide) (by k_asm) ?N (List.forall_mem_nil _) rfl ?turn ?done
  case hL => exact rfl
  case N => exact news_sub lN (by k_sub)
  case hh => with_unfolding_all rfl
  case turn =>
    rintro c k tk1 I oI u h tk hk rfl hne F1 N1
    try dsimp only at F1 N1 hne
    clear lF lN
    k_steps
    dsimp only [MyPost]
    k_steps
    rename News _ _ _ _ => nE
    exact hret _ _ _ (by k_asm) (news_sub nE (by k_sub))
  case done =>
    rintro c u h tk hk
    exact absurd hk (by decide)
theorem c_countN {x d ar nl ct : Addr} {es : List DictEntry} {n na nn : Nat}
    (B : Below A₀ base outer h₀) (F : Fr h₀ L s.heap m) (X : (KT w.params).In h₀) (N : News h₀ L s.heap news) (T' : Top p loose mean mg mb h₀) (hkk : cs.kind = .function)
    (hT : Tab news x d es n ar nl na nn []) (hd : dp + 8 < recursionLimit) (hu : un + 60 < cLine)
    (hret : ∀ T k ta tb h' tk', Fr h₀ L h' m → News h₀ L h' ((T, { cls := .type "tuple", data := .seq #[.int 0 ta, .int 0 tb] k }) :: news) → (∀ q ∈ news, @LT.lt Nat _ q.1 T) → Q (.ref T) { s with heap := h', toks := tk' }) :
    wpAny (model prog w) (ktrTop dp un gd cn cs L a ccd cl outer) (call (.ref 644) [.ref x, .ref ct]) Q E s := by
  have hMk := kstMark
  have hSt := StopHere.mk
  obtain ⟨t1, t2, t3, t4, t5, t6, t7, -, -, -, -⟩ := hT
  refine wpAny_call ?_
  k_dflt (k_extra "M enter")
  k_steps
  refine Stop.on ?_
  rename Fr _ _ _ _ => lF
  rename News _ _ _ _ => lN
  refine' for_list (L := L') (σ := Unit) (vs := []) (nn := nn) rfl (fun _ => news) (fun _ => []) [] (fun _ _ => True) () ?hh (fun _ _ _ => t7) lF (news_sub lN (by k_sub)) (List.forall_mem_nil _) trivial ?turn ?done
  case hh => with_unfolding_all rfl
  case turn =>
    rintro c i9 v I oI u h tk hv
    exact absurd hv (by simp)
  case done =>
    rintro c u h tk - F1 N1
    dsimp only at F1 N1
    clear lF lN
    k_steps
    rename News h₀ _ _ _ => nE
    rename ∀ (_ : Addr × Obj), _ ∈ _ → _ < _ => lA
    exact hret _ _ _ _ _ _ (by k_asm) nE lA
theorem c_sizes {ct : Addr} {vs : List Value} {nc : Nat} {tw : Tok}
    (B : Below A₀ base outer h₀) (F : Fr h₀ L s.heap m) (X : (KT w.params).In h₀) (N : News h₀ L s.heap news) (T' : Top p loose mean mg mb h₀) (hkk : cs.kind = .function)
    (mc : (ct, W.listOf vs.toArray nc) ∈ news) (hvs : vs ≠ []) (hd : dp + 8 < recursionLimit) (hu : un + 60 < cLine)
    (hret : ∀ T k ta tb h' tk', Fr h₀ L h' m → News h₀ L h' ((T, { cls := .type "tuple", data := .seq #[.int 0 ta, .int 0 tb] k }) :: news) → (∀ q ∈ news, @LT.lt Nat _ q.1 T) → Q (.ref T) { s with heap := h', toks := tk' }) :
    wpAny (model prog w) (ktrTop dp un gd cn cs L a ccd cl outer) (call (.ref 524) [.ref ct, .int 0 tw]) Q E s := by
  have hMk := kstMark
  have hSt := StopHere.mk
  refine wpAny_call ?_
  k_dflt (k_extra "M enter")
  k_steps
  refine Stop.on ?_
  with_unfolding_all refine for_invF (by k_asm) rfl rfl rfl ?_
  k_steps
  refine Stop.on ?_
  rename Fr _ _ _ _ => lF
  rename News _ _ _ _ => lN
  refine' for_list (L := L') (σ := Unit) (vs := vs) (nn := nc) rfl (fun _ => news) (fun _ => []) [] (fun k _ => k = 0) () ?hh (fun _ _ _ => mc) lF (news_sub lN (by k_sub)) (List.forall_mem_nil _) rfl ?turn ?done
  case hh => with_unfolding_all rfl
  case turn =>
    rintro c i9 v I oI u h tk hv rfl hne F1 N1
    dsimp only at F1 N1
    clear lF lN
    k_steps
    dsimp only [MyPost]
    k_steps
    rename News h₀ _ _ _ => nE
    rename _ ∧ AllLt _ _ => lA
    exact hret _ _ _ _ _ _ (by k_asm) (news_drop2 nE) (fun q hq => kst_ltOf lA.2 q hq)
  case done =>
    rintro c u h tk hk
    exact absurd (List.eq_nil_of_length_eq_zero hk) hvs
theorem comp_end2 {I C D : Addr} {s₁ : Shared} {oI oC oD : Obj} {S : List (Addr × Obj) → Prop} {rest : Value → List (Addr × Obj) → Prop} {y : Value} {h' : Heap} {tk : Nat} {a1 a2 : Addr × Obj} {R : List (Addr × Obj)}
    (F : Fr h₀ L h' m) (N : News h₀ L h' (a1 :: a2 :: (I, oI) :: (C, oC) :: (D, oD) :: R)) (o1 : @Ne Nat a1.1 I ∧ @Ne Nat a1.1 C ∧ @Ne Nat a1.1 D) (o2 : @Ne Nat a2.1 I ∧ @Ne Nat a2.1 C ∧ @Ne Nat a2.1 D) (off : LCg.Off3 I C D R) (hS : S (a1 :: a2 :: R)) (r : rest y (a1 :: a2 :: R)) :
    LCg.CompEnd h₀ L m s₁ I oI C oC D oD S rest y { s₁ with heap := h', toks := tk } :=
  LCg.CompEnd.intro F N (a1 :: a2 :: R) (fun p hp => by simp only [List.mem_cons] at hp ⊢; rcases hp with h | h | h | h | h | h <;> simp [h]) ⟨o1, o2, off⟩ hS r
theorem offI_of {I : Addr} {it : Obj} : ∀ {l : List (Addr × Obj)}, (∀ p ∈ l, @Ne Nat p.1 I) → OffI I it l
  | [], _ => trivial
  | _ :: _, h => ⟨.inl (h _ (.head _)), offI_of fun p hp => h p (.tail _ hp)⟩
theorem comp_end0 {I C D : Addr} {s₁ : Shared} {oI oC oD : Obj} {S : List (Addr × Obj) → Prop} {rest : Value → List (Addr × Obj) → Prop} {y : Value} {h' : Heap} {tk : Nat} {R : List (Addr × Obj)}
    (F : Fr h₀ L h' m) (N : News h₀ L h' ((I, oI) :: (C, oC) :: (D, oD) :: R)) (off : LCg.Off3 I C D R) (hS : S R) (r : rest y R) :
    LCg.CompEnd h₀ L m s₁ I oI C oC D oD S rest y { s₁ with heap := h', toks := tk } :=
  LCg.CompEnd.intro F N R (fun p hp => hp) off hS r
theorem c_resize {x d ar nl : Addr} {es : List DictEntry} {n na nn : Nat} {ta tb : Tok}
    (B : Below A₀ base outer h₀) (F : Fr h₀ L s.heap m) (X : (KT w.params).In h₀) (N : News h₀ L s.heap news) (T' : Top p loose mean mg mb h₀) (hkk : cs.kind = .function)
    (hT : Tab news x d es n ar nl na nn []) (hd : dp + 18 < recursionLimit) (hu : un + 300 < cLine)
    (hret : ∀ es' n' ar' nl' na' nn' nd ne en nk news' tf h' tk', Tab news' x d es' n' ar' nl' na' nn' [.ref nd] → Nod news' nd ne en nk .none .none → getL "free" es' = some (some (.int 1 tf)) → (∀ q ∈ news, q.1 ≠ d → q ∈ news') → (∀ q ∈ news, @Ne Nat q.1 ne) → Fr h₀ L h' m → News h₀ L h' news' → Q .none { s with heap := h', toks := tk' }) :
    wpAny (model prog w) (ktrTop dp un gd cn cs L a ccd cl outer) (call (.ref 659) [.ref x, .int 0 ta, .int 1 tb, .none]) Q E s := by
  have hMk := kstMark
  have hSc := StopComp.mk
  obtain ⟨t1, t2, t3, t4, t5, t6, t7, ⟨u8, t8⟩, ⟨u9, t9⟩, ⟨u10, t10⟩, ⟨u11, t11⟩⟩ := hT
  have a1 : @Ne Nat x d := news_apart N t1 t2 inst_ne_dict
  have a2 : @Ne Nat ar d := news_apart N t6 t2 list_ne_dict
  have a3 : @Ne Nat nl d := news_apart N t7 t2 list_ne_dict
  obtain ⟨rest, hoff, N2, hr⟩ := news_split N [(d, dictOf es n)] (List.forall_mem_cons.mpr ⟨t2, List.forall_mem_nil _⟩)
  simp only [List.map_cons, List.map_nil, List.cons_append, List.nil_append] at hoff N2 hr
  have m1 := mem_off (hr _ t1) a1
  have m2 := mem_off (hr _ t6) a2
  have m3 := mem_off (hr _ t7) a3
  clear N t1 t2 t6 t7
  refine wpAny_call ?_
  k_dflt (k_extra "M enter")
  k_steps
  refine Stop.on ?_
  rename IsRange _ _ _ _ _ _ _ _ => hR
  k_dflt (refine LCg.CompSrc.range (n := 1) (by rfl) (by k_asm) (by k_asm) hR (by decide) (by decide) (by exact Nat.le_of_ble_eq_true rfl) ?_)
  intro g9
  k_steps
  have hfr : ∀ q ∈ news, @Ne Nat q.1 d' := fun q hq => Nat.ne_of_lt (kst_ltOf (l := (d, dictOf es n) :: rest) l1.2.2.2.2.2.2 q (hr q hq))
  rename News _ _ _ _ => nE
  rename _ ∧ (_ ∧ (_ ∧ (_ ∧ LCg.Off3 _ _ _ _))) => hO
  refine comp_end2 (by k_asm) nE ⟨by k_ne, by k_ne, by k_ne⟩ ⟨by k_ne, by k_ne, by k_ne⟩ hO trivial ?_
  have hSt := StopHere.mk
  k_steps
  refine Stop.on ?_
  with_unfolding_all refine For_turns (by k_asm) ?_
  k_steps
  rename Fr _ _ _ _ => lF
  rename News _ _ _ _ => lN
  with_unfolding_all refine ktu_enum (lo := W.listOf #[] 0) (vs := []) (xs := []) (by rfl) lF lN (by k_mem) (by rfl) (by rfl) (by rfl) ?_
  intro i9 l9
  clear lF lN l9
  refine ItemsRest.zero ?_
  intro h9 tk9 F9 N9
  k_steps
  refine Stop.on ?_
  with_unfolding_all refine for_invF (by k_asm) rfl rfl rfl ?_
  k_steps
  rename Fr _ _ _ _ => lF
  rename News _ _ _ _ => lN
  refine krv_reversed (vs := []) lF lN ⟨_, (lN (nl, W.listOf #[] nn) (by k_mem)).1, rfl, nn, rfl⟩ ?_
  intro D8 h8 F8 N8 l8
  clear lF lN
  k_steps
  refine Stop.on ?_
  rename Fr _ _ _ _ => lF
  rename News _ _ _ _ => lN
  with_unfolding_all refine iter_revUnr (I := D8) (ax := nl) (vs := []) (n := nn) (lo := W.listOf #[] nn) (by rfl) lF lN (offI_of fun p hp => Nat.ne_of_lt (l8 p hp)) (by k_mem) (by rfl) (by rfl) ?_
  clear lF lN l8
  refine RevRest.zero ?_
  intro h7 tk7 F7 N7
  k_steps
  refine Stop.on ?_
  refine wpAny_call ?_
  k_dflt (k_extra "M enter")
  k_steps
  rename News _ _ _ _ => nE
  refine' hret _ _ _ _ _ _ x' d' _ _ _ _ _ _ ⟨?o1, ?o2, ?o3, ?o4, ?o5, ?o6, ?o7, ⟨_, ?o8⟩, ⟨_, ?o9⟩, ⟨_, ?o10⟩, ⟨_, ?o11⟩⟩ ⟨?n1, ?n2, ?n3, ?n4, ?n5⟩ ?fr ?keep hfr ?FF nE
  case FF => k_asm
  case o1 => k_mem
  case o2 => k_mem
  case o3 => with_reducible assumption
  case o4 => k_extra "M getL"
  case o5 => k_extra "M getL"
  case o6 => k_mem
  case o7 => k_mem
  case o8 => k_extra "M getL"
  case o9 => k_extra "M getL"
  case o10 => k_extra "M getL"
  case o11 => k_extra "M getL"
  case n1 => k_mem
  case n2 => k_mem
  case n3 => exact Dk.of_keys (by kernel_rfl) (by simp)
  case n4 => with_unfolding_all rfl
  case n5 => with_unfolding_all rfl
  case fr => k_extra "M getL"
  case keep => exact fun q hq hne => .tail _ (.tail _ (.tail _ (.tail _ (.tail _ (.tail _ (.tail _ (mem_off (hr q hq) hne)))))))
theorem c_rehash {x d ar nl : Addr} {es : List DictEntry} {n na nn : Nat} {t0 : Tok}
    (B : Below A₀ base outer h₀) (F : Fr h₀ L s.heap m) (X : (KT w.params).In h₀) (N : News h₀ L s.heap news) (T' : Top p loose mean mg mb h₀) (hkk : cs.kind = .function)
    (hT : Tab news x d es n ar nl na nn []) (hd : dp + 22 < recursionLimit) (hu : un + 400 < cLine)
    (hret : ∀ es' n' ar' nl' na' nn' nd ne en nk news' tf h' tk', Tab news' x d es' n' ar' nl' na' nn' [.ref nd] → Nod news' nd ne en nk .none .none → getL "free" es' = some (some (.int 1 tf)) → (∀ q ∈ news, q.1 ≠ d → q ∈ news') → (∀ q ∈ news, @Ne Nat q.1 ne) → Fr h₀ L h' m → News h₀ L h' news' → Q .none { s with heap := h', toks := tk' }) :
    wpAny (model prog w) (ktrTop dp un gd cn cs L a ccd cl outer) (call (.ref 651) [.ref x, .bytes #[95, 95, 109, 111, 100, 101] t0, .none]) Q E s := by
  have hMk := kstMark
  have hSt := StopHere.mk
  have t1 := hT.obj
  have t2 := hT.dic
  have t3 := hT.dk
  refine wpAny_call ?_
  k_dflt (k_extra "M enter")
  k_steps
  refine Stop.on ?_
  refine' c_countA (es := es) (n := n) (d := d) (ar := ar) (nl := nl) (na := na) (nn := nn) ?B ?F ?X ?N ?T ?hkk (hT.mono ?sub) ?hd ?hu ?ret
  k_extra "M pre"
  case sub => exact fun _ h => .tail _ (.tail _ h)
  intro tk1 h1 tk1' F1 N1
  try dsimp only
  k_steps
  refine Stop.on ?_
  refine' c_countN (es := es) (n := n) (d := d) (ar := ar) (nl := nl) (na := na) (nn := nn) ?B ?F ?X ?N ?T ?hkk (hT.mono ?sub2) ?hd ?hu ?ret2
  k_extra "M pre"
  case sub2 => exact fun _ h => .tail _ (.tail _ h)
  intro T2 k2 ta2 tb2 h2 tk2' F2 N2 l2
  try dsimp only
  k_lt l2
  k_steps
  refine Stop.on ?_
  refine' c_sizes ?B ?F ?X ?N ?T ?hkk ?mc ?hvs ?hd ?hu ?ret3
  k_extra "M pre"
  case mc => k_mem
  case hvs => exact List.cons_ne_nil _ _
  intro T3 k3 ta3 tb3 h3 tk3' F3 N3 l3
  try dsimp only
  k_lt l3
  k_steps
  refine Stop.on ?_
  refine' c_resize (es := es) (n := n) (d := d) (ar := ar) (nl := nl) (na := na) (nn := nn) ?B ?F ?X ?N ?T ?hkk (hT.mono ?sub3) ?hd ?hu ?ret4
  k_extra "M pre"
  case sub3 => exact fun _ h => .tail _ (.tail _ (.tail _ (.tail _ h)))
  intro es' n' ar' nl' na' nn' nd ne en nk news' tf h4 tk4' hT4 hN4 e4 k4 f4 F4 N4
  try dsimp only
  k_steps
  exact hret es' n' ar' nl' na' nn' nd ne en nk news' tf _ _ hT4 hN4 e4 (fun q hq hne => k4 q (.tail _ (.tail _ (.tail _ (.tail _ hq)))) hne) (fun q hq => f4 q (.tail _ (.tail _ (.tail _ (.tail _ hq))))) (by k_asm) (by k_asm)
theorem c_newkey1 {x d ar nl nd ne : Addr} {es en : List DictEntry} {n na nn nk : Nat} {t0 : Tok} {v : Value}
    (B : Below A₀ base outer h₀) (F : Fr h₀ L s.heap m) (X : (KT w.params).In h₀) (N : News h₀ L s.heap news) (T' : Top p loose mean mg mb h₀) (hkk : cs.kind = .function)
    (hT : Tab news x d es n ar nl na nn [.ref nd]) (hN : Nod news nd ne en nk .none .none) (hd : dp + 18 < recursionLimit) (hu : un + 200 < cLine)
    (hret : ∀ en' nk' news' h' tk', Tab news' x d es n ar nl na nn [.ref nd] → Nod news' nd ne en' nk' (.bytes #[95, 95, 109, 111, 100, 101] t0) v → (∀ q ∈ news, q.1 ≠ ne → q ∈ news') → Fr h₀ L h' m → News h₀ L h' news' → Q .none { s with heap := h', toks := tk' }) :
    wpAny (model prog w) (ktrTop dp un gd cn cs L a ccd cl outer) (call (.ref 623) [.ref x, .bytes #[95, 95, 109, 111, 100, 101] t0, v, .none]) Q E s := by
  have hMk := kstMark
  have hSt := StopHere.mk
  obtain ⟨t1, t2, t3, t4, t5, t6, t7, t8, t9, t10, t11⟩ := hT
  obtain ⟨n1, n2, n3, n4, n5⟩ := hN
  have a0 : @Ne Nat nd ne := news_apart N n1 n2 inst_ne_dict
  have a1 : @Ne Nat x ne := news_apart N t1 n2 inst_ne_dict
  have a2 : @Ne Nat ar ne := news_apart N t6 n2 list_ne_dict
  have a3 : @Ne Nat nl ne := news_apart N t7 n2 list_ne_dict
  have a4 : @Ne Nat d ne := news_apart N t2 n2 (dict_ne t4 n3 (by decide +kernel))
  obtain ⟨rest, hoff, N2, hr⟩ := news_split N [(ne, dictOf en nk)] (List.forall_mem_cons.mpr ⟨n2, List.forall_mem_nil _⟩)
  simp only [List.map_cons, List.map_nil, List.cons_append, List.nil_append] at hoff N2 hr
  have m0 := mem_off (hr _ n1) a0
  have m1 := mem_off (hr _ t1) a1
  have m2 := mem_off (hr _ t6) a2
  have m3 := mem_off (hr _ t7) a3
  have m4 := mem_off (hr _ t2) a4
  have hn0 : ([Value.ref nd] : List Value)[(0 : Int).toNat]? = some (.ref nd) := rfl
  clear N n1 n2 t1 t2 t6 t7
  refine wpAny_call ?_
  k_dflt (k_extra "M enter")
  k_steps
  refine Stop.on ?_
  refine' c_main (es := es) (n := n) (d := d) (ar := ar) (nl := nl) (na := na) (nn := nn) (nd := nd) ?B ?F ?X ?N ?T ?hkk ?hT ?hd ?hu ?ret
  k_extra "M pre"
  case hT => exact ⟨.tail _ m1, .tail _ m4, t3, t4, t5, .tail _ m2, .tail _ m3, t8, t9, t10, t11⟩
  intro tk1 h1 tk1' F1 N1
  try dsimp only
  k_steps
  rename News h₀ _ _ _ => nE
  refine hret _ _ _ _ _ ⟨.tail _ m1, .tail _ m4, t3, t4, t5, .tail _ m2, .tail _ m3, t8, t9, t10, t11⟩ ⟨.tail _ m0, .head _, ?e, ?k, ?v⟩ (fun q hq hne => .tail _ (mem_off (hr q hq) hne)) ?FF nE
  case e => with_reducible assumption
  case k => k_extra "M getL"
  case v => k_extra "M getL"
  case FF => k_asm
theorem c_newkey0 {x d ar nl : Addr} {es : List DictEntry} {n na nn : Nat} {t0 : Tok} {v : Value}
    (B : Below A₀ base outer h₀) (F : Fr h₀ L s.heap m) (X : (KT w.params).In h₀) (N : News h₀ L s.heap news) (T' : Top p loose mean mg mb h₀) (hkk : cs.kind = .function)
    (hT : Tab news x d es n ar nl na nn []) (hd : dp + 26 < recursionLimit) (hu : un + 600 < cLine)
    (hret : ∀ es' n' ar' nl' na' nn' nd ne en nk news' h' tk', Tab news' x d es' n' ar' nl' na' nn' [.ref nd] → Nod news' nd ne en nk (.bytes #[95, 95, 109, 111, 100, 101] t0) v → (∀ q ∈ news, q.1 ≠ d → q ∈ news') → Fr h₀ L h' m → News h₀ L h' news' → Q .none { s with heap := h', toks := tk' }) :
    wpAny (model prog w) (ktrTop dp un gd cn cs L a ccd cl outer) (call (.ref 623) [.ref x, .bytes #[95, 95, 109, 111, 100, 101] t0, v, .none]) Q E s := by
  have hMk := kstMark
  have hSt := StopHere.mk
  have t1 := hT.obj
  have t2 := hT.dic
  have t3 := hT.dk
  have t4 := hT.arr
  have t5 := hT.nod
  have t6 := hT.marr
  have t7 := hT.mnod
  refine wpAny_call ?_
  k_dflt (k_extra "M enter")
  k_steps
  refine Stop.on ?_
  refine' c_rehash (es := es) (n := n) (d := d) (ar := ar) (nl := nl) (na := na) (nn := nn) ?B ?F ?X ?N ?T ?hkk ?hT ?hd ?hu ?ret
  k_extra "M pre"
  case hT => exact hT
  intro es' n' ar' nl' na' nn' nd ne en nk n1 tf h1 tk1 hT1 hN1 e1 k1 f1 F1 N1
  try dsimp only
  have w1 := hT1.obj
  have w2 := hT1.dic
  have w3 := hT1.dk
  have w4 := hT1.arr
  have w5 := hT1.nod
  have w6 := hT1.marr
  have w7 := hT1.mnod
  k_steps
  refine Stop.on ?_
  refine wpAny_call ?_
  k_dflt (k_extra "M enter")
  k_steps
  refine Stop.on ?_
  refine' c_newkey1 (es := es') (n := n') (d := d) (ar := ar') (nl := nl') (na := na') (nn := nn') (nd := nd) (ne := ne) (en := en) (nk := nk) ?B ?F ?X ?N ?T ?hkk ?hT ?hN ?hd ?hu ?ret2
  k_extra "M pre"
  case hT => exact hT1
  case hN => exact hN1
  intro en' nk' n2 h2 tk2 hT2 hN2 k2 F2 N2
  try dsimp only
  k_steps
  exact hret es' n' ar' nl' na' nn' nd ne en' nk' n2 _ _ hT2 hN2 (fun q hq hne => k2 q (k1 q hq hne) (f1 q hq)) (by k_asm) (by k_asm)
theorem c_set {x d ar nl : Addr} {es : List DictEntry} {n na nn : Nat} {t0 : Tok} {v : Value}
    (B : Below A₀ base outer h₀) (F : Fr h₀ L s.heap m) (X : (KT w.params).In h₀) (N : News h₀ L s.heap news) (T' : Top p loose mean mg mb h₀) (hkk : cs.kind = .function)
    (hT : Tab news x d es n ar nl na nn []) (hd : dp + 36 < recursionLimit) (hu : un + 900 < cLine)
    (hret : ∀ es' n' ar' nl' na' nn' nd ne en nk news' h' tk', Tab news' x d es' n' ar' nl' na' nn' [.ref nd] → Nod news' nd ne en nk (.bytes #[95, 95, 109, 111, 100, 101] t0) v → (∀ q ∈ news, q.1 ≠ d → q ∈ news') → Fr h₀ L h' m → News h₀ L h' news' → Q .none { s with heap := h', toks := tk' }) :
    wpAny (model prog w) (ktrTop dp un gd cn cs L a ccd cl outer) (call (.ref 595) [.ref x, .bytes #[95, 95, 109, 111, 100, 101] t0, v, .none]) Q E s := by
  have hMk := kstMark
  have hSt := StopHere.mk
  obtain ⟨t1, t2, t3, t4, t5, t6, t7, ⟨u8, t8⟩, ⟨u9, t9⟩, ⟨u10, t10⟩, ⟨u11, t11⟩⟩ := hT
  have a1 : @Ne Nat x d := news_apart N t1 t2 inst_ne_dict
  have a2 : @Ne Nat ar d := news_apart N t6 t2 list_ne_dict
  have a3 : @Ne Nat nl d := news_apart N t7 t2 list_ne_dict
  obtain ⟨rest, hoff, N2, hr⟩ := news_split N [(d, dictOf es n)] (List.forall_mem_cons.mpr ⟨t2, List.forall_mem_nil _⟩)
  simp only [List.map_cons, List.map_nil, List.cons_append, List.nil_append] at hoff N2 hr
  have m1 := mem_off (hr _ t1) a1
  have m2 := mem_off (hr _ t6) a2
  have m3 := mem_off (hr _ t7) a3
  have hin : ∀ {o : Obj} (q : Addr × Obj), q ∈ news → q.1 ≠ d → q ∈ (d, o) :: rest := fun q hq hne => .tail _ (mem_off (hr q hq) hne)
  clear N t1 t2 t6 t7
  refine wpAny_call ?_
  k_dflt (k_extra "M enter")
  k_steps
  refine Stop.on ?_
  refine wpAny_call ?_
  k_dflt (k_extra "M enter")
  k_steps
  refine Stop.on ?_
  have hT1 : Tab ((d, dictOf es' n') :: rest) x d es' n' ar nl na nn [] := by
    refine' ⟨.tail _ m1, .head _, ?o3, ?o4, ?o5, .tail _ m2, .tail _ m3, ⟨_, ?o8⟩, ⟨_, ?o9⟩, ⟨_, ?o10⟩, ⟨_, ?o11⟩⟩
    case o3 => with_reducible assumption
    case o4 => k_extra "M getL"
    case o5 => k_extra "M getL"
    case o8 => k_extra "M getL"
    case o9 => k_extra "M getL"
    case o10 => k_extra "M getL"
    case o11 => k_extra "M getL"
  refine' c_find0 (es := es') (n := n') (d := d) (ar := ar) (nl := nl) (na := na) (nn := nn) ?B ?F ?X ?N ?T ?hkk ?hT ?hd ?hu ?ret
  k_extra "M pre"
  case hT => exact hT1
  intro tk1 h1 tk1' F1 N1
  try dsimp only
  k_steps
  refine Stop.on ?_
  refine' c_newkey0 (es := es') (n := n') (d := d) (ar := ar) (nl := nl) (na := na) (nn := nn) ?B ?F ?X ?N ?T ?hkk ?hT ?hd ?hu ?ret2
  k_extra "M pre"
  case hT => exact hT1
  intro es2 n2 ar2 nl2 na2 nn2 nd ne en nk news2 h2 tk2 hT2 hN2 k2 F2 N2
  try dsimp only
  k_steps
  exact hret es2 n2 ar2 nl2 na2 nn2 nd ne en nk news2 _ _ hT2 hN2 (fun q hq hne => k2 q (hin q hq hne) hne) (by k_asm) (by k_asm)
theorem c_find1 {x d ar nl nd ne : Addr} {es en : List DictEntry} {n na nn nk : Nat} {t0 t1' : Tok} {v : Value}
    (B : Below A₀ base outer h₀) (F : Fr h₀ L s.heap m) (X : (KT w.params).In h₀) (N : News h₀ L s.heap news) (T' : Top p loose mean mg mb h₀) (hkk : cs.kind = .function)
    (hT : Tab news x d es n ar nl na nn [.ref nd]) (hN : Nod news nd ne en nk (.bytes #[95, 95, 109, 111, 100, 101] t1') v) (hd : dp + 18 < recursionLimit) (hu : un + 200 < cLine)
    (hret : ∀ tk h' tk', Fr h₀ L h' m → News h₀ L h' news → Q (.int 0 tk) { s with heap := h', toks := tk' }) :
    wpAny (model prog w) (ktrTop dp un gd cn cs L a ccd cl outer) (call (.ref 560) [.ref x, .bytes #[95, 95, 109, 111, 100, 101] t0]) Q E s := by
  have hMk := kstMark
  have hSt := StopHere.mk
  have t1 := hT.obj
  have t2 := hT.dic
  have t3 := hT.dk
  have t4 := hT.arr
  have t5 := hT.nod
  have t6 := hT.marr
  have t7 := hT.mnod
  obtain ⟨n1, n2, n3, n4, n5⟩ := hN
  have hn0 : ([Value.ref nd] : List Value)[(0 : Int).toNat]? = some (.ref nd) := rfl
  refine wpAny_call ?_
  k_dflt (k_extra "M enter")
  k_steps
  refine Stop.on ?_
  refine' c_main (es := es) (n := n) (d := d) (ar := ar) (nl := nl) (na := na) (nn := nn) (nd := nd) ?B ?F ?X ?N ?T ?hkk hT ?hd ?hu ?ret
  k_extra "M pre"
  intro tk1 h1 tk1' F1 N1
  try dsimp only
  k_steps
  refine Stop.on ?_
  rename Fr _ _ _ _ => lF
  rename News _ _ _ _ => lN
  with_unfolding_all refine' ksw_while (σ := Unit) (fun _ => news) (fun c => [(Str.ofString "at", .int 0 tk1)]) (fun _ => True) [] (fun c => True) (fun c => 0) () lF lN trivial ?hk trivial ?turn
  case hk => exact List.forall_mem_cons.mpr ⟨by with_unfolding_all rfl, List.forall_mem_nil _⟩
  case turn =>
    clear lF lN
    rintro ⟨⟩ u h tk - - F1 N1
    dsimp only at F1 N1
    k_steps
    rename News h₀ _ _ _ => nE
    exact hret _ _ _ (by k_asm) (fun q hq => nE q (.tail _ hq))
theorem c_text1 {x d ar nl nd ne : Addr} {es en : List DictEntry} {n na nn nk : Nat} {t0 t1' : Tok} {v : Value}
    (B : Below A₀ base outer h₀) (F : Fr h₀ L s.heap m) (X : (KT w.params).In h₀) (N : News h₀ L s.heap news) (T' : Top p loose mean mg mb h₀) (hkk : cs.kind = .function)
    (hT : Tab news x d es n ar nl na nn [.ref nd]) (hN : Nod news nd ne en nk (.bytes #[95, 95, 109, 111, 100, 101] t1') v) (hv : handedIn v = true) (hd : dp + 22 < recursionLimit) (hu : un + 300 < cLine)
    (hret : ∀ h' tk', Fr h₀ L h' m → News h₀ L h' news → Q v { s with heap := h', toks := tk' }) :
    wpAny (model prog w) (ktrTop dp un gd cn cs L a ccd cl outer) (call (.ref 581) [.ref x, .bytes #[95, 95, 109, 111, 100, 101] t0]) Q E s := by
  have hMk := kstMark
  have hSt := StopHere.mk
  have t1 := hT.obj
  have t2 := hT.dic
  have t3 := hT.dk
  have t4 := hT.arr
  have t5 := hT.nod
  have t6 := hT.marr
  have t7 := hT.mnod
  have n1 := hN.obj
  have n2 := hN.dic
  have n3 := hN.dk
  have n5 := hN.val
  have hn0 : ([Value.ref nd] : List Value)[(0 : Int).toNat]? = some (.ref nd) := rfl
  refine wpAny_call ?_
  k_dflt (k_extra "M enter")
  k_steps
  refine Stop.on ?_
  refine' c_find1 (es := es) (n := n) (d := d) (ar := ar) (nl := nl) (na := na) (nn := nn) (nd := nd) ?B ?F ?X ?N ?T ?hkk hT hN ?hd ?hu ?ret
  k_extra "M pre"
  intro tk1 h1 tk1' F1 N1
  try dsimp only
  k_steps
  exact hret _ _ (by k_asm) (by k_asm)
theorem c_text0 {x d ar nl : Addr} {es : List DictEntry} {n na nn : Nat} {t0 : Tok}
    (B : Below A₀ base outer h₀) (F : Fr h₀ L s.heap m) (X : (KT w.params).In h₀) (N : News h₀ L s.heap news) (T' : Top p loose mean mg mb h₀) (hkk : cs.kind = .function)
    (hT : Tab news x d es n ar nl na nn []) (hd : dp + 22 < recursionLimit) (hu : un + 300 < cLine)
    (hret : ∀ h' tk', Fr h₀ L h' m → News h₀ L h' news → Q .none { s with heap := h', toks := tk' }) :
    wpAny (model prog w) (ktrTop dp un gd cn cs L a ccd cl outer) (call (.ref 581) [.ref x, .bytes #[95, 95, 109, 111, 100, 101] t0]) Q E s := by
  have hMk := kstMark
  have hSt := StopHere.mk
  have t1 := hT.obj
  have t2 := hT.dic
  have t3 := hT.dk
  have t4 := hT.arr
  have t5 := hT.nod
  have t6 := hT.marr
  have t7 := hT.mnod
  refine wpAny_call ?_
  k_dflt (k_extra "M enter")
  k_steps
  refine Stop.on ?_
  refine' c_find0 (es := es) (n := n) (d := d) (ar := ar) (nl := nl) (na := na) (nn := nn) ?B ?F ?X ?N ?T ?hkk hT ?hd ?hu ?ret
  k_extra "M pre"
  intro tk1 h1 tk1' F1 N1
  try dsimp only
  k_steps
  exact hret _ _ (by k_asm) (by k_asm)
theorem c_weakN {x : Addr}
    (B : Below A₀ base outer h₀) (F : Fr h₀ L s.heap m) (X : (KT w.params).In h₀) (N : News h₀ L s.heap news) (T' : Top p loose mean mg mb h₀) (hkk : cs.kind = .function)
    (hd : dp + 32 < recursionLimit) (hu : un + 500 < cLine)
    (hret : ∀ tk h' tk', Fr h₀ L h' m → News h₀ L h' news → Q (.bytes #[] tk) { s with heap := h', toks := tk' }) :
    wpAny (model prog w) (ktrTop dp un gd cn cs L a ccd cl outer) (call (.ref 461) [.none]) Q E s := by
  have hMk := kstMark
  have hSt := StopHere.mk
  refine wpAny_call ?_
  k_dflt (k_extra "M enter")
  k_steps
  exact hret _ _ _ (by k_asm) (by k_asm)
theorem c_weak0 {x d ar nl : Addr} {es : List DictEntry} {n na nn : Nat}
    (B : Below A₀ base outer h₀) (F : Fr h₀ L s.heap m) (X : (KT w.params).In h₀) (N : News h₀ L s.heap news) (T' : Top p loose mean mg mb h₀) (hkk : cs.kind = .function)
    (hT : Tab news x d es n ar nl na nn []) (hd : dp + 32 < recursionLimit) (hu : un + 500 < cLine)
    (hret : ∀ tk h' tk', Fr h₀ L h' m → News h₀ L h' news → Q (.bytes #[] tk) { s with heap := h', toks := tk' }) :
    wpAny (model prog w) (ktrTop dp un gd cn cs L a ccd cl outer) (call (.ref 461) [.ref x]) Q E s := by
  have hMk := kstMark
  have hSt := StopHere.mk
  have t1 := hT.obj
  have t2 := hT.dic
  have t3 := hT.dk
  refine wpAny_call ?_
  k_dflt (k_extra "M enter")
  k_steps
  refine Stop.on ?_
  refine' c_text0 (es := es) (n := n) (d := d) (ar := ar) (nl := nl) (na := na) (nn := nn) ?B ?F ?X ?N ?T ?hkk hT ?hd ?hu ?ret
  k_extra "M pre"
  intro h1 tk1' F1 N1
  try dsimp only
  k_steps
  exact hret _ _ _ (by k_asm) (by k_asm)
theorem c_weak5 {x d ar nl nd ne : Addr} {es en : List DictEntry} {n na nn nk : Nat} {t0 t5 : Tok}
    (B : Below A₀ base outer h₀) (F : Fr h₀ L s.heap m) (X : (KT w.params).In h₀) (N : News h₀ L s.heap news) (T' : Top p loose mean mg mb h₀) (hkk : cs.kind = .function)
    (hT : Tab news x d es n ar nl na nn [.ref nd]) (hN : Nod news nd ne en nk (.bytes #[95, 95, 109, 111, 100, 101] t0) (.int 5 t5)) (hd : dp + 32 < recursionLimit) (hu : un + 500 < cLine)
    (hret : ∀ tk h' tk', Fr h₀ L h' m → News h₀ L h' news → Q (.bytes #[] tk) { s with heap := h', toks := tk' }) :
    wpAny (model prog w) (ktrTop dp un gd cn cs L a ccd cl outer) (call (.ref 461) [.ref x]) Q E s := by
  have hMk := kstMark
  have hSt := StopHere.mk
  have t1 := hT.obj
  have t2 := hT.dic
  have t3 := hT.dk
  refine wpAny_call ?_
  k_dflt (k_extra "M enter")
  k_steps
  refine Stop.on ?_
  refine' c_text1 (es := es) (n := n) (d := d) (ar := ar) (nl := nl) (na := na) (nn := nn) (nd := nd) ?B ?F ?X ?N ?T ?hkk hT hN rfl ?hd ?hu ?ret
  k_extra "M pre"
  intro h1 tk1' F1 N1
  try dsimp only
  k_steps
  exact hret _ _ _ (by k_asm) (by k_asm)
local macro_rules | `(tactic| walk_at "getMethod bytes") => `(tactic| (k_here; (with_reducible refine bf_method ?_)))
local macro_rules | `(tactic| walk_at "call builtin:bytes.find") => `(tactic| k_extra "M bfind")
local macro_rules | `(tactic| walk_at "compareOp In bytes bytes") => `(tactic| k_extra "M bin")
theorem lines_weak : True := by
  k_with "M bfind" => (k_here; refine find_bytes ?_; intro tk9 k9; (try dsimp only))
  k_with "M bin" => (k_here; k_dflt (refine' in_bytes ?hh ?F ?N ?_; (case hh => with_unfolding_all rfl); (case F => k_asm); (case N => k_asm); k_whole); intro h' tk' F' N'; (try dsimp only); (try k_sweep))
  trivial
noncomputable def stgB (c : Array UInt8) : Nat → Array UInt8
  | 0 => #[]
  | 1 => if hasB c 107 = true then #[107] else #[]
  | _ => (if hasB c 107 = true then #[107] else #[]) ++ (if hasB c 118 = true then #[118] else #[])
theorem stgB_len (c : Array UInt8) (i : Nat) : (stgB c i).size ≤ 2 := by
  unfold stgB
  split
  · simp
  · split <;> simp
  · split <;> split <;> simp
theorem stg_t0 {b d f : Array UInt8} (hc : cutB b = d) (hf : f = stgB (cutB b) 0) (h : (Builtin.Bytes.find? d #[107] 0 d.size).isSome = true) : f ++ #[107] = stgB (cutB b) 1 := by
  subst hc
  rw [hf]
  exact (if_pos h).symm
theorem stg_f0 {b d f : Array UInt8} (hc : cutB b = d) (hf : f = stgB (cutB b) 0) (h : (Builtin.Bytes.find? d #[107] 0 d.size).isSome = false) : f = stgB (cutB b) 1 := by
  subst hc
  rw [hf]
  exact (if_neg (show ¬ hasB (cutB b) 107 = true from by unfold hasB; rw [h]; decide)).symm
theorem stg_t1 {b d f : Array UInt8} (hc : cutB b = d) (hf : f = stgB (cutB b) 1) (h : (Builtin.Bytes.find? d #[118] 0 d.size).isSome = true) : f ++ #[118] = stgB (cutB b) 2 := by
  subst hc
  rw [hf]
  show stgB (cutB b) 1 ++ #[118] = stgB (cutB b) 1 ++ (if hasB (cutB b) 118 = true then #[118] else #[])
  rw [if_pos (show hasB (cutB b) 118 = true from h)]
theorem stg_f1 {b d f : Array UInt8} (hc : cutB b = d) (hf : f = stgB (cutB b) 1) (h : (Builtin.Bytes.find? d #[118] 0 d.size).isSome = false) : f = stgB (cutB b) 2 := by
  subst hc
  rw [hf]
  show stgB (cutB b) 1 = stgB (cutB b) 1 ++ (if hasB (cutB b) 118 = true then #[118] else #[])
  rw [if_neg (show ¬ hasB (cutB b) 118 = true from by unfold hasB; rw [h]; decide), Array.append_empty]
theorem news_tup2 {h : Heap} {D : Addr} {a c : Array UInt8} {ta tc : Tok} {l : List (Addr × Obj)} (N : News h₀ L h ((D, { cls := .type "tuple", data := .seq #[.bytes a ta, .bytes c tc] 0 }) :: l)) : ∃ ta tc, News h₀ L h ((D, tupO [.bytes a ta, .bytes c tc] 0) :: l) := ⟨_, _, N⟩
theorem c_weakB {x d ar nl nd ne : Addr} {es en : List DictEntry} {n na nn nk : Nat} {t0 tb : Tok} {b : Array UInt8}
    (B : Below A₀ base outer h₀) (F : Fr h₀ L s.heap m) (X : (KT w.params).In h₀) (N : News h₀ L s.heap news) (T' : Top p loose mean mg mb h₀) (hkk : cs.kind = .function)
    (hT : Tab news x d es n ar nl na nn [.ref nd]) (hN : Nod news nd ne en nk (.bytes #[95, 95, 109, 111, 100, 101] t0) (.bytes b tb)) {ks : List Int} (hk : KBw.bInts b = ks) (hsz : ks.length ≤ 1000) (hd : dp + 32 < recursionLimit) (hu : un + 500 < cLine)
    (hret : ∀ r tk h' tk', r = wkOf b → Fr h₀ L h' m → News h₀ L h' news → Q (.bytes r tk) { s with heap := h', toks := tk' }) :
    wpAny (model prog w) (ktrTop dp un gd cn cs L a ccd cl outer) (call (.ref 461) [.ref x]) Q E s := by
  have hMk := kstMark
  have hSt := StopHere.mk
  have t1 := hT.obj
  have t2 := hT.dic
  have t3 := hT.dk
  refine wpAny_call ?_
  k_dflt (k_extra "M enter")
  k_steps
  refine Stop.on ?_
  refine' c_text1 (es := es) (n := n) (d := d) (ar := ar) (nl := nl) (na := na) (nn := nn) (nd := nd) ?B ?F ?X ?N ?T ?hkk hT hN rfl ?hd ?hu ?ret
  k_extra "M pre"
  intro h1 tk1' F1 N1
  try dsimp only
  have hz1 : fndB b #[0] < 0 ∨ 0 ≤ fndB b #[0] := by omega
  k_steps
  all_goals (refine Stop.on ?_)
  all_goals (with_unfolding_all refine for_invF (by k_asm) rfl rfl rfl ?_)
  all_goals k_steps
  all_goals (refine Stop.on ?_)
  · have hcut : cutB b = b := if_pos ‹_›
    have hkC : KBw.bInts b = KBw.bInts (cutB b) := by rw [hcut]
    rename Fr _ _ _ _ => lF
    rename News _ _ _ _ => lM
    obtain ⟨ta, tc, lN⟩ := news_tup2 lM
    clear lM
    refine' for_tup (L := L') (σ := Array UInt8 × Tok) (vs := [.bytes #[107] ta, .bytes #[118] tc]) (nn := 0) rfl (fun _ => _) (fun c => [(Str.ofString "found", .bytes c.1 c.2)]) [] (fun i c => c.1 = stgB (cutB b) i) (#[], k9) ?hh1 ?hl1 lF lN ?hk1 rfl ?turn1 ?done1
    case hl1 => exact fun _ _ _ => .head _
    case hh1 => with_unfolding_all rfl
    case hk1 => exact List.forall_mem_cons.mpr ⟨by with_unfolding_all rfl, List.forall_mem_nil _⟩
    case turn1 =>
      rintro ⟨f, tf⟩ i v I oI u h tk hv hP hne F2 N2
      dsimp only at hP F2 N2 hne
      have hL2 : ∀ q ∈ news, q.1 ≠ I := fun q hq => hne q (by simp [hq])
      have hf : KBw.bInts f = KBw.bInts f := rfl
      have hfl : (KBw.bInts f).length ≤ 2 := by rw [KBw.ints_length, hP]; exact stgB_len _ _
      clear lF lN
      match i, hv with
      | 0, hv =>
        cases hv
        k_steps
        · refine' my_end (f ++ #[107], _) (by k_asm) (by k_asm) (.head _) (fun p hp => ⟨.tail _ hp, hne p hp⟩) (List.forall_mem_cons.mpr ⟨by with_unfolding_all rfl, List.forall_mem_nil _⟩) (fun z9 q1 q2 q3 => ?sm10) ?hp10
          case sm10 => (have q4 := q2 _ (.head _); simp [kstB, q1, q4])
          case hp10 => exact stg_t0 hcut hP (by assumption)
        · refine' my_end (f, tf) (by k_asm) (by k_asm) (.head _) (fun p hp => ⟨.tail _ hp, hne p hp⟩) (List.forall_mem_cons.mpr ⟨by with_unfolding_all rfl, List.forall_mem_nil _⟩) (fun z9 q1 q2 q3 => ?sm11) ?hp11
          case sm11 => (have q4 := q2 _ (.head _); simp [kstB, q1, q4])
          case hp11 => exact stg_f0 hcut hP (by assumption)
      | 1, hv =>
        cases hv
        k_steps
        · refine' my_end (f ++ #[118], _) (by k_asm) (by k_asm) (.head _) (fun p hp => ⟨.tail _ hp, hne p hp⟩) (List.forall_mem_cons.mpr ⟨by with_unfolding_all rfl, List.forall_mem_nil _⟩) (fun z9 q1 q2 q3 => ?sm12) ?hp12
          case sm12 => (have q4 := q2 _ (.head _); simp [kstB, q1, q4])
          case hp12 => exact stg_t1 hcut hP (by assumption)
        · refine' my_end (f, tf) (by k_asm) (by k_asm) (.head _) (fun p hp => ⟨.tail _ hp, hne p hp⟩) (List.forall_mem_cons.mpr ⟨by with_unfolding_all rfl, List.forall_mem_nil _⟩) (fun z9 q1 q2 q3 => ?sm13) ?hp13
          case sm13 => (have q4 := q2 _ (.head _); simp [kstB, q1, q4])
          case hp13 => exact stg_f1 hcut hP (by assumption)
    case done1 =>
      rintro ⟨f, tf⟩ u h tk hP F2 N2
      dsimp only at hP F2 N2
      clear lF lN
      k_steps
      rename News h₀ _ _ _ => nE
      exact hret f _ _ _ hP (by k_asm) (fun q hq => nE q (.tail _ (.tail _ hq)))
  · have hcut : cutB b = KBy.picked b none (some (fndB b #[0])) := if_neg (by omega)
    rename Fr _ _ _ _ => lF
    rename News _ _ _ _ => lM
    obtain ⟨ta, tc, lN⟩ := news_tup2 lM
    clear lM
    refine' for_tup (L := L') (σ := Array UInt8 × Tok) (vs := [.bytes #[107] ta, .bytes #[118] tc]) (nn := 0) rfl (fun _ => _) (fun c => [(Str.ofString "found", .bytes c.1 c.2)]) [] (fun i c => c.1 = stgB (cutB b) i) (#[], k9) ?hh2 ?hl2 lF lN ?hk2 rfl ?turn2 ?done2
    case hl2 => exact fun _ _ _ => .head _
    case hh2 => with_unfolding_all rfl
    case hk2 => exact List.forall_mem_cons.mpr ⟨by with_unfolding_all rfl, List.forall_mem_nil _⟩
    case turn2 =>
      rintro ⟨f, tf⟩ i v I oI u h tk hv hP hne F2 N2
      dsimp only at hP F2 N2 hne
      have hL2 : ∀ q ∈ news, q.1 ≠ I := fun q hq => hne q (by simp [hq])
      have hf : KBw.bInts f = KBw.bInts f := rfl
      have hfl : (KBw.bInts f).length ≤ 2 := by rw [KBw.ints_length, hP]; exact stgB_len _ _
      clear lF lN
      match i, hv with
      | 0, hv =>
        cases hv
        k_steps
        · refine' my_end (f ++ #[107], _) (by k_asm) (by k_asm) (.head _) (fun p hp => ⟨.tail _ hp, hne p hp⟩) (List.forall_mem_cons.mpr ⟨by with_unfolding_all rfl, List.forall_mem_nil _⟩) (fun z9 q1 q2 q3 => ?sm20) ?hp20
          case sm20 => (have q4 := q2 _ (.head _); simp [kstB, q1, q4])
          case hp20 => exact stg_t0 hcut hP (by assumption)
        · refine' my_end (f, tf) (by k_asm) (by k_asm) (.head _) (fun p hp => ⟨.tail _ hp, hne p hp⟩) (List.forall_mem_cons.mpr ⟨by with_unfolding_all rfl, List.forall_mem_nil _⟩) (fun z9 q1 q2 q3 => ?sm21) ?hp21
          case sm21 => (have q4 := q2 _ (.head _); simp [kstB, q1, q4])
          case hp21 => exact stg_f0 hcut hP (by assumption)
      | 1, hv =>
        cases hv
        k_steps
        · refine' my_end (f ++ #[118], _) (by k_asm) (by k_asm) (.head _) (fun p hp => ⟨.tail _ hp, hne p hp⟩) (List.forall_mem_cons.mpr ⟨by with_unfolding_all rfl, List.forall_mem_nil _⟩) (fun z9 q1 q2 q3 => ?sm22) ?hp22
          case sm22 => (have q4 := q2 _ (.head _); simp [kstB, q1, q4])
          case hp22 => exact stg_t1 hcut hP (by assumption)
        · refine' my_end (f, tf) (by k_asm) (by k_asm) (.head _) (fun p hp => ⟨.tail _ hp, hne p hp⟩) (List.forall_mem_cons.mpr ⟨by with_unfolding_all rfl, List.forall_mem_nil _⟩) (fun z9 q1 q2 q3 => ?sm23) ?hp23
          case sm23 => (have q4 := q2 _ (.head _); simp [kstB, q1, q4])
          case hp23 => exact stg_f1 hcut hP (by assumption)
    case done2 =>
      rintro ⟨f, tf⟩ u h tk hP F2 N2
      dsimp only at hP F2 N2
      clear lF lN
      k_steps
      rename News h₀ _ _ _ => nE
      exact hret f _ _ _ hP (by k_asm) (fun q hq => nE q (.tail _ (.tail _ hq)))
/-- entering a def with cells whose body is given by a projection of the text -/
theorem code_defBC {R : Result → Shared → Prop} {A : Around} {s : Shared} {K : Frag} {nm qual : Str} {params : Arguments} {body body' : List Stmt} {scope : Scope} {dV kV doc pm cdv ct oc : Value} {an od : Option Addr} {osl : Array (Option Value)} {f : Addr} {args : Args} {binds : List (Str × Value)} {env : Env}
    (B : Below A₀ base outer h₀) (F : Fr h₀ L s.heap m) (X₀ : K.In h₀) (N : News h₀ L s.heap news) (T : Top p loose mean mg mb h₀) (hA : A.frames = some (env :: outer)) (hf : env.frame = some L) (hke : env.scope.kind = .function)
    (ho : K.lookup f = some ⟨oc, od, .func (fnOf nm qual params body scope dV kV doc pm an cdv ct), osl⟩) (hbody : body = body') (hcd : codeIn K cdv qual = true) (hroom : A.depth < recursionLimit)
    (hbind : BindsTo s (fnOf nm qual params body' scope dV kV doc pm an cdv ct) args binds) (hkind : (binds.all fun y => scope.names.lookup y.1 == some .local || scope.names.lookup y.1 == some .cell) = true)
    (hnd : ((cellsFrom 0 scope.names []).map (·.1)).Nodup)
    (h : ∀ g L' h₁ tk cells, Fr h₀ L g m → Fr g L' h₁ (bindL (envOfC qual scope L' f cdv).kindOf binds fun _ => none) → News g L' h₁ (cells ++ news) →
      CellsAre (bindC (envOfC qual scope L' f cdv).kindOf binds fun _ => none) (cellsFrom (L' + 1) scope.names []) cells → Below A base (env :: outer) g → K.In g → Top p loose mean mg mb g → (∀ p ∈ news, p.1 < L') →
      wpAny (model prog w) (A.deeper (envOfC qual scope L' f cdv)) (execs body' (envOfC qual scope L' f cdv))
        (fun fl s' => LeaveK h₀ L m g R (match fl with | .ret v => v | _ => .none) s')
        (fun e s' => wpAny (model prog w) (A.deeper (envOfC qual scope L' f cdv)) (leaving (envOfC qual scope L' f cdv) e) (fun _ s'' => R (.error e) s'') (fun e' s'' => R (.error e') s'') s')
        { s with heap := h₁, toks := tk })
    (hco : scope.isCoroutine = false) (hgen : scope.isGenerator = false) (hk : scope.kind = .function) : codeAny (model prog w) A (.call (.ref f) args) R s := by
  subst hbody
  exact code_defC B F X₀ N T hA hf hke ho hcd hroom hbind hkind hnd h hco hgen hk
theorem lines_mode : True := by
  k_with "M enterC" => (refine' code_defBC ?k1 ?k2 ?k3 ?k4 ?k5 ?kA ?kF ?kK ?k6 ?kBo ?k7 ?k8 ?k9 ?kB ?kD ?_ ?c2 ?c3 ?c4; (case kA => exact rfl); (case kF => exact rfl); (case kK => first | exact rfl | with_reducible assumption | assumption); (case k1 => k_asm); (case k2 => k_asm); (case k3 => k_asm); (case k4 => k_asm); (case k5 => k_asm); (case k6 => k_is); (case kBo => ((conv => lhs; whnf); try exact rfl)); (case k7 => k_is); (case k8 => ktr_room); (case k9 => first | exact BindsTo.of_eq rfl | exact binds_K (by k_in) rfl (by k_is) rfl rfl rfl); (case kB => exact rfl); (case kD => decide +kernel); (case c2 => exact rfl); (case c3 => exact rfl); (case c4 => exact rfl); k_whole; intro g' L' h' tk' cells' FG' F' N' Y' B' X' T' l1; (try k_lt l1); k_cells Y'; (try simp only [List.cons_append, List.nil_append] at N'); (try dsimp only); (try k_lift B'); (try k_fold))
  trivial
theorem four_at {a b c d : Tok} {r : Int} (h0 : 0 ≤ r) (h1 : r < 4) : ∃ k u, [Value.int 0 a, .int 107 b, .int 118 c, .int 120 d][r.toNat]? = some (.int k u) ∧ (k = 0 ∨ k = 107 ∨ k = 118 ∨ k = 120) := by
  have : r = 0 ∨ r = 1 ∨ r = 2 ∨ r = 3 := by omega
  rcases this with rfl | rfl | rfl | rfl
  · exact ⟨_, _, rfl, by simp⟩
  · exact ⟨_, _, rfl, by simp⟩
  · exact ⟨_, _, rfl, by simp⟩
  · exact ⟨_, _, rfl, by simp⟩
theorem five_at {b : Array UInt8} {a c : Tok} {r : Int} (h0 : 0 ≤ r) (h1 : r < 5) : ∃ v, [Value.bytes b a, .bytes b a, .bytes b a, .int 5 c, .none][r.toNat]? = some v ∧ (v = .bytes b a ∨ v = .int 5 c ∨ v = .none) := by
  have : r = 0 ∨ r = 1 ∨ r = 2 ∨ r = 3 ∨ r = 4 := by omega
  rcases this with rfl | rfl | rfl | rfl | rfl
  · exact ⟨_, rfl, by simp⟩
  · exact ⟨_, rfl, by simp⟩
  · exact ⟨_, rfl, by simp⟩
  · exact ⟨_, rfl, by simp⟩
  · exact ⟨_, rfl, by simp⟩
theorem tab_make {h : Heap} {led : List (Addr × Obj)} {x d ar nl : Addr} {es : List DictEntry} {n na nn : Nat} {u1 u2 u3 u4 : Value} (N : News h₀ L h led) (o : (x, instObj 737 d) ∈ led) (dd : (d, dictOf es n) ∈ led) (hk : keysIn tabKeys es = true) (hl : es.length ≤ 900)
    (e1 : getL "array" es = some (some (.ref ar))) (e2 : getL "nodes" es = some (some (.ref nl))) (m1 : (ar, W.listOf ([] : List Value).toArray na) ∈ led) (m2 : (nl, W.listOf ([] : List Value).toArray nn) ∈ led)
    (e3 : getL "flags" es = some (some u1)) (e4 : getL "log_nodes" es = some (some u2)) (e5 : getL "free" es = some (some u3)) (e6 : getL "size" es = some (some u4)) : ∃ es n ar nl na nn, Tab led x d es n ar nl na nn [] :=
  ⟨es, n, ar, nl, na, nn, o, dd, Dk.of_keys hk hl, e1, e2, m1, m2, ⟨_, e3⟩, ⟨_, e4⟩, ⟨_, e5⟩, ⟨_, e6⟩⟩
structure KS where
  ov : Bool
  kl : Addr
  kv : List Value
  kn : Nat
  ki : List Int
noncomputable def stepK (p : Bool × List Int) (k : Int) : Bool × List Int := (p.1 || k == 0, if (p.1 || k == 0) = true then p.2 else p.2 ++ [k])
theorem stepK_all : ∀ (ks : List Int) (l : List Int), (ks.foldl stepK (true, l)).2 = l
  | [], _ => rfl
  | k :: ks, l => by
    rw [List.foldl_cons]
    exact stepK_all ks l
theorem stepK_take : ∀ (ks : List Int) (l : List Int), (ks.foldl stepK (false, l)).2 = l ++ ks.takeWhile (fun x => !(x == 0))
  | [], l => by simp
  | k :: ks, l => by
    rw [List.foldl_cons, List.takeWhile_cons]
    unfold stepK
    simp only [Bool.false_or]
    cases h : (k == 0) with
    | true =>
      simp only [if_true, Bool.not_true, Bool.false_eq_true, if_false, List.append_nil]
      exact stepK_all ks l
    | false =>
      simp only [Bool.false_eq_true, if_false, Bool.not_false, if_true]
      have := stepK_take ks (l ++ [k])
      unfold stepK at this
      rw [this, List.append_assoc]
      rfl
theorem foldl_at {α β : Type} {f : β → α → β} {a : β} {ks : List α} {i : Nat} {k : α} (h : ks[i]? = some k) : (ks.take (i + 1)).foldl f a = f ((ks.take i).foldl f a) k := by
  rw [List.take_add_one, h]
  simp
theorem due_eq {ks ki : List Int} (hIn : KBa.In ks) (hki : ki = ks.takeWhile (fun x => !(x == 0))) :
    (List.replicate (if (ki.any fun x => x == 107) = true then (1 : Int) else 0).toNat [(107 : UInt8)]).flatten.toArray ++ (List.replicate (if (ki.any fun x => x == 118) = true then (1 : Int) else 0).toNat [(118 : UInt8)]).flatten.toArray = wkOf (byteArr ks) := by
  have hca : ∀ (k : Int) (l : List Int), l.contains k = l.any (fun x => x == k) := fun k l => by
    induction l with
    | nil => rfl
    | cons a l ih => rw [List.contains_cons, List.any_cons, ih, Bool.beq_comm]
  have h7 : hasB (cutB (byteArr ks)) 107 = ki.any (fun x => x == 107) := by
    rw [has_ints, cut_ints (KBa.ints_make hIn), ← hki]
    exact hca 107 ki
  have h8 : hasB (cutB (byteArr ks)) 118 = ki.any (fun x => x == 118) := by
    rw [has_ints, cut_ints (KBa.ints_make hIn), ← hki]
    exact hca 118 ki
  unfold wkOf
  rw [h7, h8]
  cases ki.any (fun x => x == 107) <;> cases ki.any (fun x => x == 118) <;> rfl
theorem rep_len {b : Bool} {v : UInt8} : ((List.replicate (if b = true then (1 : Int) else 0).toNat [v]).flatten.map (fun c => (c.toNat : Int))).length ≤ 1 := by
  cases b <;> simp
theorem c_mode {b c : Addr} {nb nc : Nat} {vs : List Value} {ns : List Int} {t : Int} {tt : Tok} {nf : Int → Tok → List (Addr × Obj)}
    (B : Below A₀ base outer h₀) (F : Fr h₀ L s.heap m) (X : (KT w.params).In h₀) (N : News h₀ L s.heap news) (T : Top p loose mean mg mb h₀) (hkk : cs.kind = .function)
    (U : ∀ t' tk, Upd b (listOf [.ref c, .int t tt].toArray nb) (listOf [.ref c, .int t' tk].toArray nb) news (nf t' tk)) (hc : (c, listOf vs.toArray nc) ∈ news)
    (hi : IntsAre vs ns) (hlen : ns.length ≤ 30) (ht : 0 ≤ t) (ht2 : t < 900) (hd : dp + 50 < recursionLimit) (hu : un + 2000 < cLine)
    (hret : ∀ t' tk2 h' tk', t ≤ t' → t' ≤ t + 10 → Fr h₀ L h' m → News h₀ L h' (nf t' tk2) → Q (.bool true) { s with heap := h', toks := tk' }) :
    wpAny (model prog w) (ktrTop dp un gd cn cs L a ccd cl outer) (call (.ref 856) [.ref b]) Q E s := by
  have hMk := kstMark
  have hSt := StopHere.mk
  have hSc := StopComp.mk
  obtain ⟨hb, -⟩ := upd_mem (U 0 0)
  have hbc : @Ne Nat c b := news_apart N hc hb (ints_no_ref hi)
  obtain ⟨rest, hoff, N2, hr⟩ := news_split N [_, _] (List.forall_mem_cons.mpr ⟨hb, List.forall_mem_cons.mpr ⟨hc, List.forall_mem_nil _⟩⟩)
  simp only [List.map_cons, List.map_nil, List.cons_append, List.nil_append] at hoff N2 hr
  clear N
  refine wpAny_call ?_
  k_dflt (k_extra "M enterC")
  obtain ⟨Lm, hLm⟩ : ∃ x : Addr, x = L' := ⟨_, rfl⟩
  subst hLm
  k_steps
  refine Stop.on ?_
  rename Obj => oB
  rename oB.data = _ => dB
  have hcB : oB.data = .cell (some (.ref b)) := dB
  clear dB
  k_dflt (refine LCg.ListComp_U (F₀ := by k_asm) (by with_unfolding_all rfl) (by decide) (by rfl) (by decide) (by rfl) ?_)
  k_steps
  refine Stop.on ?_
  refine' c_swept (vs := vs) (ns := ns) (nf := fun tk => (Lm + 1, oB) :: (b, listOf [.ref c, .int (t + 1) tk].toArray nb) :: (c, listOf vs.toArray nc) :: rest) ?B ?F ?X ?N ?T ?hkk ?U ?hc hi hlen ht (by omega) (by decide) (by decide) ?hd ?hu ?ret
  k_extra "M pre"
  case U => (intro tk9; k_upd)
  case hc => k_mem
  intro r tr tk2 h1 tk1 hr0 hr6 F1 N1
  try dsimp only
  k_steps
  refine Stop.on ?_
  rename IsRange _ _ _ _ _ _ _ _ => hR
  k_dflt (refine LCg.CompSrc.range (by rfl) (by k_asm) (by k_asm) hR (range_small (Int.le_refl 0) hr0 (by omega)) (range_size hr0) (by rw [PySem.sizeLine_eq]; omega) ?_)
  intro g9
  refine comp_ind (fun i ys nx => ∃ (ks : List Int) (t9 : Int) (tk9 : Tok), nx = (Lm + 1, oB) :: (b, listOf [.ref c, .int t9 tk9].toArray nb) :: (c, listOf vs.toArray nc) :: rest ∧ t9 = t + 1 + (i : Int) ∧ IntsAre ys ks ∧ (∀ k ∈ ks, k = 0 ∨ k = 107 ∨ k = 118 ∨ k = 120) ∧ ks.length = i) ?fin ?step _ 0 [] _ (Nat.zero_add _) ⟨[], t + 1, _, rfl, by omega, .nil, (fun _ h => nomatch h), rfl⟩
  case step =>
    rintro i ys nx hi9 ⟨ks, t9, tk9, rfl, ht9, hys, hks, hkl⟩ v I oI C oC D m₂ h2 tk3 E' hv hC hx F2 N2 off ne
    obtain ⟨o1, o2, o3, o4⟩ := off
    obtain ⟨n1, n2, n3⟩ := ne
    dsimp only at o1 o2 o3
    k_steps
    refine Stop.on ?_
    rename Addr => l9
    refine' c_swept (vs := vs) (ns := ns) (t := t9) (nf := fun tk => (l9, _) :: (I, oI) :: (C, oC) :: (D, LCg.lst ys) :: (Lm + 1, oB) :: (b, listOf [.ref c, .int (t9 + 1) tk].toArray nb) :: (c, listOf vs.toArray nc) :: rest) ?B ?F ?X ?N ?T ?hkk ?U4 ?hc4 hi hlen (by omega) (by omega) (by decide) (by decide) ?hd ?hu ?ret4
    k_extra "M pre"
    case U4 => (intro tk9; k_upd)
    case hc4 => k_mem
    intro r2 tr2 tk4 h4 tk5 hr20 hr24 F4 N4
    try dsimp only
    obtain ⟨k, uk, hx4, hk4⟩ := four_at hr20 hr24
    k_steps
    rename News _ _ _ _ => N5
    exact comp_end0 (by k_asm) (news_sub N5 (fun q hq => .tail _ hq)) ⟨o1, o2, o3, o4⟩ trivial ⟨ks ++ [k], t9 + 1, tk4, rfl, by omega, IntsAre.append hys (.cons k uk .nil), (fun q hq => (List.mem_append.mp hq).elim (hks q) (fun e => by rw [List.mem_singleton.mp e]; exact hk4)), by simp [hkl]⟩
  case fin =>
    rintro ys nx ⟨ks, t9, tk9, rfl, ht9, hys, hks, hkl⟩
    have hkl5 : ks.length ≤ 5 := by omega
    have hIn : KBa.In ks := fun k hk => by have := hks k hk; omega
    unfold LCg.FinE
    intro D9 h9 tk9' F9 N9 o9
    simp only [LCg.Off1, and_true] at o9
    try dsimp only
    k_steps
    refine Stop.on ?_
    rename _ ∧ _ ∧ _ ∧ _ ∧ AllLt _ rest => l8
    rename Addr => l9
    refine' c_swept (vs := vs) (ns := ns) (t := t9) (nf := fun tk => (l9, _) :: (D9, LCg.lst ys) :: (Lm + 1, oB) :: (b, listOf [.ref c, .int (t9 + 1) tk].toArray nb) :: (c, listOf vs.toArray nc) :: rest) ?B ?F ?X ?N ?T ?hkk ?U5 ?hc5 hi hlen (by omega) (by omega) (by decide) (by decide) ?hd ?hu ?ret5
    k_extra "M pre"
    case U5 => (intro tk9; k_upd)
    case hc5 => k_mem
    intro r2 tr2 tk4 h4 tk5 hr20 hr24 F4 N4
    try dsimp only
    obtain ⟨v5, hx5, hv5⟩ := five_at hr20 hr24
    k_steps
    rename _ ∧ _ ∧ _ ∧ _ ∧ _ ∧ AllLt d' rest => ld
    have hlow : ∀ {u : Obj}, ∀ q ∈ (b, u) :: (c, listOf vs.toArray nc) :: rest, @Ne Nat q.1 d' := fun {u} q hq => Nat.ne_of_lt (kst_ltOf (l := (b, u) :: (c, listOf vs.toArray nc) :: rest) ld.2.2.2 q hq)
    rename News _ _ _ _ => N6
    have hTab := tab_make N6 (x := x') (d := d') (by k_mem) (by k_mem) (by kernel_rfl) (by simp) (by with_unfolding_all rfl) (by with_unfolding_all rfl) (by k_mem) (by k_mem) (by with_unfolding_all rfl) (by with_unfolding_all rfl) (by with_unfolding_all rfl) (by with_unfolding_all rfl)
    obtain ⟨es6, n6, ar6, nl6, na6, nn6, hT6⟩ := hTab
    rcases hv5 with rfl | rfl | rfl
    · k_steps
      refine Stop.on ?_
      refine' c_set (es := es6) (n := n6) (d := d') (ar := ar6) (nl := nl6) (na := na6) (nn := nn6) ?B ?F ?X ?N ?T ?hkk hT6 ?hd ?hu ?retF
      k_extra "M pre"
      intro es7 n7 ar7 nl7 na7 nn7 nd ne en nk N7l h7 tk7 hT7 hN7 keep7 F7 N7
      have hold : ∀ q ∈ (b, listOf [.ref c, .int (t9 + 1) tk4].toArray nb) :: (c, listOf vs.toArray nc) :: rest, q ∈ N7l := fun q hq => keep7 q (.tail _ (.tail _ (.tail _ (.tail _ (.tail _ (.tail _ (.tail _ (.tail _ hq)))))))) (hlow q hq)
      try dsimp only
      clear N6
      k_steps
      refine Stop.on ?_
      with_unfolding_all refine for_invF (by k_asm) rfl rfl rfl ?_
      k_steps
      refine Stop.on ?_
      rename Fr _ _ _ _ => lF
      rename News _ _ _ _ => lN
      refine' for_bytes (L := Lm) (σ := KS) rfl (fun c => (c.kl, listOf c.kv.toArray c.kn) :: N7l) (fun c => [(Str.ofString "is_over", .bool c.ov), (Str.ofString "kept", .ref c.kl)]) [] (fun i c => IntsAre c.kv c.ki ∧ (c.ov, c.ki) = (ks.take i).foldl stepK (false, []) ∧ c.ki.length ≤ i) ⟨false, _, [], 0, []⟩ ?hhB (KBa.ints_make hIn) lF lN ?hkB ⟨.nil, rfl, Nat.le_refl _⟩ ?turnB ?doneB
      case hhB => with_unfolding_all rfl
      case hkB => exact List.forall_mem_cons.mpr ⟨by with_unfolding_all rfl, List.forall_mem_cons.mpr ⟨by with_unfolding_all rfl, List.forall_mem_nil _⟩⟩
      case turnB =>
        rintro ⟨ov, kl, kv, kn, ki⟩ i k t' I oI u h tk hk ⟨p1, p2, p3⟩ hne F8 N8
        dsimp only at p1 p2 p3 F8 N8 hne
        clear lF lN
        have hki5 : ki.length ≤ 5 := by have := (List.getElem?_eq_some_iff.mp hk).1; omega
        cases ov with
        | true =>
          k_steps
          refine' my_end ⟨true, kl, kv, kn, ki⟩ (by k_asm) (by k_asm) (.head _) (fun p hp => ⟨.tail _ hp, hne p hp⟩) (List.forall_mem_cons.mpr ⟨by with_unfolding_all rfl, List.forall_mem_cons.mpr ⟨by with_unfolding_all rfl, List.forall_mem_nil _⟩⟩) (fun z9 q1 q2 q3 => ?smB1) ⟨p1, ?fdB1, Nat.le_succ_of_le p3⟩
          case smB1 => (have q4 := q2 _ (.head _); have q5 := q2 _ (.tail _ (.head _)); simp [kstB, q1, q4, q5])
          case fdB1 => (rw [foldl_at hk, ← p2]; rfl)
        | false =>
          k_steps
          · have hk0 : k = 0 := by assumption
            refine' my_end ⟨k == 0, kl, kv, kn, ki⟩ (by k_asm) (by k_asm) (.head _) (fun p hp => ⟨.tail _ hp, hne p hp⟩) (List.forall_mem_cons.mpr ⟨by with_unfolding_all rfl, List.forall_mem_cons.mpr ⟨by with_unfolding_all rfl, List.forall_mem_nil _⟩⟩) (fun z9 q1 q2 q3 => ?smB2) ⟨p1, ?fdB2, Nat.le_succ_of_le p3⟩
            case smB2 => (have q4 := q2 _ (.head _); have q5 := q2 _ (.tail _ (.head _)); simp [kstB, q1, q4, q5])
            case fdB2 => (rw [foldl_at hk, ← p2, hk0]; rfl)
          · have hk0 : k ≠ 0 := by assumption
            have hkb : (k == 0) = false := by simpa using hk0
            refine' my_end ⟨k == 0, _, _, 0, ki ++ [k]⟩ (by k_asm) (by k_asm) (.tail _ (.tail _ (.head _))) (List.forall_mem_cons.mpr ⟨⟨.head _, ?neB3⟩, fun p hp => ⟨.tail _ (.tail _ (.tail _ (.tail _ hp))), hne p (.tail _ hp)⟩⟩) (List.forall_mem_cons.mpr ⟨by with_unfolding_all rfl, List.forall_mem_cons.mpr ⟨by with_unfolding_all rfl, List.forall_mem_nil _⟩⟩) (fun z9 q1 q2 q3 => ?smB3) ⟨by assumption, ?fdB3, ?lnB3⟩
            case neB3 => k_ne
            case smB3 => (have q4 := q2 _ (.head _); have q5 := q2 _ (.tail _ (.head _)); simp [kstB, q1, q4, q5])
            case fdB3 => (rw [foldl_at hk, ← p2]; unfold stepK; simp [hkb])
            case lnB3 => (simp only [List.length_append, List.length_singleton]; omega)
      case doneB =>
        rintro ⟨ov, kl, kv, kn, ki⟩ u h tk ⟨p1, p2, p3⟩ F8 N8
        dsimp only at p1 p2 p3 F8 N8
        rw [List.take_length] at p2
        have hki : ki = ks.takeWhile (fun x => !(x == 0)) := by
          have := congrArg Prod.snd p2
          rw [stepK_take] at this
          simpa using this
        have hki5 : ki.length ≤ 5 := by omega
        clear lF lN
        k_steps
        refine KBa.add_K (KBw.ints_list _) (KBw.ints_list _) (Nat.le_trans (Nat.add_le_add rep_len rep_len) (by decide)) ?_
        intro t8 k8 hA8
        clear hA8
        rw [due_eq hIn hki]
        k_steps
        refine Stop.on ?_
        refine' c_weakB (es := es7) (n := n7) (d := d') (ar := ar7) (nl := nl7) (na := na7) (nn := nn7) (nd := nd) (ne := ne) (en := en) (nk := nk) ?B ?F ?X ?N ?T ?hkk (hT7.mono ?sb1) ⟨?sb2, ?sb3, hN7.dk, hN7.key, hN7.val⟩ (KBa.ints_make hIn) (by omega) ?hd ?hu ?retG
        k_extra "M pre"
        case sb1 => exact fun _ h => .tail _ h
        case sb2 => exact .tail _ hN7.obj
        case sb3 => exact .tail _ hN7.dic
        rintro r9 tk9 h9 tk9' rfl F9 N9
        try dsimp only
        k_steps
        · refine Stop.on ?_
          refine' c_weakN (x := x') ?B ?F ?X ?N ?T ?hkk ?hd ?hu ?retH
          k_extra "M pre"
          intro tk9 h9 tk9' F9 N9
          try dsimp only
          k_steps
          rename News h₀ _ _ _ => nE
          exact hret (t9 + 1) tk4 _ _ (by omega) (by omega) (by k_asm) (news_upd1 (news_sub nE (fun q hq => .tail _ (hold q hq))) (U _ _) hr)
        · have hno : ((wkOf (byteArr ks)).toList == (wkOf (byteArr ks)).toList) = false := by assumption
          exact absurd hno (by simp)
    · k_steps
      refine Stop.on ?_
      refine' c_set (es := es6) (n := n6) (d := d') (ar := ar6) (nl := nl6) (na := na6) (nn := nn6) ?B ?F ?X ?N ?T ?hkk hT6 ?hd ?hu ?retA
      k_extra "M pre"
      intro es7 n7 ar7 nl7 na7 nn7 nd ne en nk N7l h7 tk7 hT7 hN7 keep7 F7 N7
      have hold : ∀ q ∈ (b, listOf [.ref c, .int (t9 + 1) tk4].toArray nb) :: (c, listOf vs.toArray nc) :: rest, q ∈ N7l := fun q hq => keep7 q (.tail _ (.tail _ (.tail _ (.tail _ (.tail _ (.tail _ (.tail _ (.tail _ hq)))))))) (hlow q hq)
      try dsimp only
      k_steps
      refine Stop.on ?_
      refine' c_weak5 (es := es7) (n := n7) (d := d') (ar := ar7) (nl := nl7) (na := na7) (nn := nn7) (nd := nd) (ne := ne) (en := en) (nk := nk) ?B ?F ?X ?N ?T ?hkk hT7 hN7 ?hd ?hu ?retB
      k_extra "M pre"
      intro tk8 h8 tk8' F8 N8
      try dsimp only
      k_steps
      refine Stop.on ?_
      refine' c_weakN (x := x') ?B ?F ?X ?N ?T ?hkk ?hd ?hu ?retC
      k_extra "M pre"
      intro tk9 h9 tk9' F9 N9
      try dsimp only
      k_steps
      rename News h₀ _ _ _ => nE
      exact hret (t9 + 1) tk4 _ _ (by omega) (by omega) (by k_asm) (news_upd1 (news_sub nE hold) (U _ _) hr)
    · k_steps
      refine Stop.on ?_
      refine' c_weak0 (es := es6) (n := n6) (d := d') (ar := ar6) (nl := nl6) (na := na6) (nn := nn6) ?B ?F ?X ?N ?T ?hkk hT6 ?hd ?hu ?retD
      k_extra "M pre"
      intro tk7 h7 tk7' F7 N7
      try dsimp only
      k_steps
      refine Stop.on ?_
      refine' c_weakN (x := x') ?B ?F ?X ?N ?T ?hkk ?hd ?hu ?retE
      k_extra "M pre"
      intro tk8 h8 tk8' F8 N8
      try dsimp only
      k_steps
      rename News h₀ _ _ _ => nE
      exact hret (t9 + 1) tk4 _ _ (by omega) (by omega) (by k_asm) (news_upd1 (news_sub nE (l' := (b, listOf [.ref c, .int (t9 + 1) tk4].toArray nb) :: (c, listOf vs.toArray nc) :: rest) (by k_sub)) (U _ _) hr)
theorem news_drop22 {a b : Addr × Obj} {l : List (Addr × Obj)} {h : Heap} (N : News h₀ L h (a :: b :: l)) : News h₀ L h l := fun q hq => N q (.tail _ (.tail _ hq))
theorem fr_list {h : Heap} {l l' : List (Str × Value)} (F : Fr h₀ L h (fun y => List.lookup y l.reverse)) (e : l = l') : Fr h₀ L h (fun y => List.lookup y l'.reverse) := e ▸ F
theorem c_limits
    (B : Below A₀ base outer h₀) (F : Fr h₀ L s.heap m) (X : (KT w.params).In h₀) (N : News h₀ L s.heap news) (T' : Top p loose mean mg mb h₀) (hkk : cs.kind = .function)
    (hd : dp + 6 < recursionLimit) (hu : un + 50 < cLine)
    (hret : ∀ x d es n h' tk', (∀ q ∈ news, @LT.lt Nat _ q.1 d) → @LT.lt Nat _ d x → Fr h₀ L h' m → News h₀ L h' ((x, instObj 60 d) :: (d, dictOf es n) :: news) → Q (.ref x) { s with heap := h', toks := tk' }) :
    wpAny (model prog w) (ktrTop dp un gd cn cs L a ccd cl outer) (call (.ref 60) []) Q E s := by
  have hMk := kstMark
  k_extra "M call"
  have F9 := fr_list F' (l' := [(Str.ofString "self", .ref x'), (Str.ofString "width", .int 64 239), (Str.ofString "registers", .int 250 240), (Str.ofString "upvalues", .int 60 241), (Str.ofString "local_names", .int 200 242), (Str.ofString "ccalls", .int 40 243), (Str.ofString "frames", .int 200 244), (Str.ofString "stack", .int 2000 245), (Str.ofString "flush", .int 50 246), (Str.ofString "steps", .int 1000000000 247), (Str.ofString "text", .int 1000000 248)]) (by kernel_rfl)
  clear F'
  k_steps
  rename News h₀ _ _ _ => nE
  exact hret x' d' _ _ _ _ l1 l2 (by k_asm) nE
theorem c_global {li : Addr}
    (B : Below A₀ base outer h₀) (F : Fr h₀ L s.heap m) (X : (KT w.params).In h₀) (N : News h₀ L s.heap news) (T' : Top p loose mean mg mb h₀) (hkk : cs.kind = .function)
    (hd : dp + 6 < recursionLimit) (hu : un + 50 < cLine)
    (hret : ∀ x d es n h' tk', Dk glbKeys 900 es → (∃ u, getL "heap" es = some (some u)) → (∀ q ∈ news, @LT.lt Nat _ q.1 d) → @LT.lt Nat _ d x → Fr h₀ L h' m → News h₀ L h' ((x, instObj 429 d) :: (d, dictOf es n) :: news) → Q (.ref x) { s with heap := h', toks := tk' }) :
    wpAny (model prog w) (ktrTop dp un gd cn cs L a ccd cl outer) (call (.ref 429) [.ref li]) Q E s := by
  have hMk := kstMark
  k_steps
  rename News h₀ _ _ _ => nE
  exact hret x' d' _ _ _ _ (Dk.of_keys (by kernel_rfl) (by simp)) ⟨_, by with_unfolding_all rfl⟩ l1 l2 (by k_asm) (news_drop22 nE)
theorem c_pheap
    (B : Below A₀ base outer h₀) (F : Fr h₀ L s.heap m) (X : (KT w.params).In h₀) (N : News h₀ L s.heap news) (T' : Top p loose mean mg mb h₀) (hkk : cs.kind = .function)
    (hd : dp + 6 < recursionLimit) (hu : un + 50 < cLine)
    (hret : ∀ x d es n t1 t2 h' tk', Dk plhKeys 900 es → getL "last_number" es = some (some (.int 0 t1)) → getL "total" es = some (some (.int 0 t2)) → (∀ q ∈ news, @LT.lt Nat _ q.1 d) → @LT.lt Nat _ d x → Fr h₀ L h' m → News h₀ L h' ((x, instObj 840 d) :: (d, dictOf es n) :: news) → Q (.ref x) { s with heap := h', toks := tk' }) :
    wpAny (model prog w) (ktrTop dp un gd cn cs L a ccd cl outer) (call (.ref 840) []) Q E s := by
  have hMk := kstMark
  k_steps
  rename News h₀ _ _ _ => nE
  exact hret x' d' _ _ _ _ _ _ (Dk.of_keys (by kernel_rfl) (by simp)) (by with_unfolding_all rfl) (by with_unfolding_all rfl) l1 l2 (by k_asm) nE
theorem news_thr {a b c e f g : Addr × Obj} {l : List (Addr × Obj)} {h : Heap} (N : News h₀ L h (a :: b :: c :: e :: f :: g :: l)) : News h₀ L h (a :: b :: c :: f :: g :: l) := fun q hq => N q (by simp only [List.mem_cons] at hq ⊢; rcases hq with h | h | h | h | h | h <;> simp [h])
theorem c_thread {g : Addr}
    (B : Below A₀ base outer h₀) (F : Fr h₀ L s.heap m) (X : (KT w.params).In h₀) (N : News h₀ L s.heap news) (T' : Top p loose mean mg mb h₀) (hkk : cs.kind = .function)
    (hd : dp + 8 < recursionLimit) (hu : un + 80 < cLine)
    (hret : ∀ x d st fr ou es n ns nf no tT h' tk', Dk thrKeys 900 es → getL "top" es = some (some (.int 0 tT)) → getL "stack" es = some (some (.ref st)) → getL "frames" es = some (some (.ref fr)) → getL "open_upvals" es = some (some (.ref ou)) → getL "glob" es = some (some (.ref g)) →
      (∃ u, getL "ccalls" es = some (some u)) → (∃ u, getL "handling" es = some (some u)) → (∃ u, getL "is_over" es = some (some u)) → (∃ u, getL "answers" es = some (some u)) →
      (∀ q ∈ news, @LT.lt Nat _ q.1 d) → @LT.lt Nat _ d x → @LT.lt Nat _ x st → @LT.lt Nat _ st fr → @LT.lt Nat _ fr ou → Fr h₀ L h' m →
      News h₀ L h' ((ou, W.listOf ([] : List Value).toArray no) :: (fr, W.listOf ([] : List Value).toArray nf) :: (st, W.listOf (List.replicate 20 Value.none).toArray ns) :: (x, instObj 403 d) :: (d, dictOf es n) :: news) → Q (.ref x) { s with heap := h', toks := tk' }) :
    wpAny (model prog w) (ktrTop dp un gd cn cs L a ccd cl outer) (call (.ref 403) [.ref g]) Q E s := by
  have hMk := kstMark
  k_steps
  k_dflt (refine' KMa.mul (ws := List.replicate 20 Value.none) ?F ?N ?l ?lo ?hi ?z ?e ?_)
  case F => k_asm
  case N => k_asm
  case l => exact News.isList (by k_asm) (.head _)
  case lo => decide
  case hi => decide
  case z => simp
  case e => rfl
  intro st h9 F9 N9 l9
  k_lt l9
  k_steps
  rename News h₀ _ _ _ => nE
  have g1 := l9.2.2.2
  refine' hret x' d' st _ _ _ _ _ _ _ _ _ _ (Dk.of_keys (by kernel_rfl) (by simp)) ?e1 ?e2 ?e3 ?e4 ?e5 ⟨_, ?e6⟩ ⟨_, ?e7⟩ ⟨_, ?e8⟩ ⟨_, ?e9⟩ l1 l2 l9.2.1 ?p1 ?p2 ?FF (news_thr nE)
  case FF => k_asm
  case e1 => with_unfolding_all rfl
  case e2 => with_unfolding_all rfl
  case e3 => with_unfolding_all rfl
  case e4 => with_unfolding_all rfl
  case e5 => with_unfolding_all rfl
  case e6 => with_unfolding_all rfl
  case e7 => with_unfolding_all rfl
  case e8 => with_unfolding_all rfl
  case e9 => with_unfolding_all rfl
  case p1 => omega
  case p2 => omega
theorem c_ground {t d st fr : Addr} {es : List DictEntry} {n nv nf : Nat} {tT : Tok}
    (B : Below A₀ base outer h₀) (F : Fr h₀ L s.heap m) (X : (KT w.params).In h₀) (N : News h₀ L s.heap news) (T' : Top p loose mean mg mb h₀) (hkk : cs.kind = .function)
    (ht : (t, instObj 403 d) ∈ news) (md : (d, dictOf es n) ∈ news) (mst : (st, W.listOf (List.replicate 20 Value.none).toArray nv) ∈ news) (mfr : (fr, W.listOf ([] : List Value).toArray nf) ∈ news) (hsf : @Ne Nat st fr)
    (e1 : getL "top" es = some (some (.int 0 tT))) (e2 : getL "stack" es = some (some (.ref st))) (e3 : getL "frames" es = some (some (.ref fr))) (hb : Dk thrKeys 900 es)
    (hd : dp + 20 < recursionLimit) (hu : un + 100 < cLine)
    (hret : ∀ g0 dg es' n' nv' nf' tT' news' h' tk', getL "top" es' = some (some (.int 1 tT')) → Sm "top" es' es → Dk thrKeys 900 es' → (g0, instObj 282 dg) ∈ news' → (d, dictOf es' n') ∈ news' → (st, W.listOf (List.replicate 21 Value.none).toArray nv') ∈ news' → (fr, W.listOf [Value.ref g0].toArray nf') ∈ news' →
      (∀ q ∈ news, q.1 ≠ d → q.1 ≠ st → q.1 ≠ fr → q ∈ news') → Fr h₀ L h' m → News h₀ L h' news' → Q (.ref g0) { s with heap := h', toks := tk' }) :
    wpAny (model prog w) (ktrTop dp un gd cn cs L a ccd cl outer) (call (.ref 323) [.ref t]) Q E s := by
  have hMk := kstMark
  have hSt := StopHere.mk
  have a1 : @Ne Nat t d := news_apart N ht md inst_ne_dict
  have a2 : @Ne Nat t st := news_apart N ht mst inst_ne_list
  have a3 : @Ne Nat t fr := news_apart N ht mfr inst_ne_list
  have a4 : @Ne Nat st d := news_apart N mst md list_ne_dict
  have a5 : @Ne Nat fr d := news_apart N mfr md list_ne_dict
  obtain ⟨rest, hoff, N2, hr⟩ := news_split N [(d, dictOf es n), (st, W.listOf (List.replicate 20 Value.none).toArray nv), (fr, W.listOf ([] : List Value).toArray nf), (t, instObj 403 d)] (all4 md mst mfr ht)
  simp only [List.map_cons, List.map_nil, List.cons_append, List.nil_append] at hoff N2 hr
  clear N
  refine wpAny_call ?_
  k_dflt (k_extra "M enter")
  k_steps
  refine Stop.on ?_
  refine' c_push (d := d) (st := st) (es := es) (n := n) (vs := List.replicate 20 Value.none) (nv := nv) (b := 900) (T := 0) (v := .none) (n1 := fun e' n' => (d, dictOf e' n') :: (st, W.listOf (List.replicate 20 Value.none).toArray nv) :: (fr, W.listOf ([] : List Value).toArray nf) :: (t, instObj 403 d) :: rest) (n2 := fun e' n' => (d, dictOf e' n') :: (st, W.listOf (List.replicate 20 Value.none).toArray nv) :: (fr, W.listOf ([] : List Value).toArray nf) :: (t, instObj 403 d) :: rest) ?B ?F ?X ?N ?T ?hkk ?ht ?U1 ?U2 ?e1 ?e2 hb (by decide) (by decide) (by decide) (by decide) ?hd ?hu ?ret
  k_extra "M pre"
  case ht => k_mem
  case U1 => (intro e' n'; k_upd)
  case U2 => (intro e' n'; k_upd)
  case e1 => k_extra "M getL"
  case e2 => k_extra "M getL"
  intro tT1 es1 n1 h1 tk1 q1 q2 q3 F1 N1
  try dsimp only
  rename StopHere => hS9
  clear hS9
  k_steps
  k_dflt (refine' KMa.mul (ws := [Value.none]) ?F ?N ?l ?lo ?hi ?z ?e ?_)
  case F => k_asm
  case N => k_asm
  case l => exact News.isList (by k_asm) (.head _)
  case lo => decide
  case hi => decide
  case z => decide
  case e => rfl
  intro m9 h9 F9 N9 l9
  k_lt l9
  k_steps
  rename News h₀ _ _ _ => nE
  simp only [List.push_toArray, List.nil_append] at nE
  refine' hret x' d' es1 n1 (nv + 1) (nf + 1) _ _ _ _ q1 q2 q3 ?m1 ?m2 ?m3 ?m4 (fun q hq f1 f2 f3 => .tail _ (.tail _ (.tail _ (.tail _ (.tail _ (.tail _ (.tail _ (mem_off (mem_off (mem_off (hr q hq) f1) f2) f3)))))))) ?FF nE
  case FF => k_asm
  case m1 => k_mem
  case m2 => k_mem
  case m3 => (rw [show List.replicate 21 Value.none = [.none, .none, .none, .none, .none, .none, .none, .none, .none, .none, .none, .none, .none, .none, .none, .none, .none, .none, .none, .none, .none] from rfl]; k_mem)
  case m4 => k_mem
theorem strKeys_of {es : List DictEntry} (h : es.all (fun e => match e.key with | .str _ _ => true | _ => false) = true) : StrKeys es.toArray := by
  intro e he
  have h1 := List.all_eq_true.mp h e (by simpa using he)
  cases q : e.key <;> rw [q] at h1 <;> first | exact ⟨_, _, rfl⟩ | cases h1
theorem ci_in {P : Params} {h : Heap} (X : (KT P).In h) : (∃ nm q bs hdct sn sub ab col dd k0 k1 k2 k3 k5 newId, h.get? 282 = some (excClassObj nm q 282 281 bs [.type "object"] hdct sn sub ab col dd k0 k1 k2 k3 k5 newId)) ∧ ∃ mN, h.Ns 281 mN ∧ mN "__eq__" = none ∧ mN "__ne__" = none := by
  have h1 := X 282 _ (by with_unfolding_all rfl)
  have h2 := X 281 _ (by with_unfolding_all rfl)
  refine ⟨⟨_, _, _, _, _, _, _, _, _, _, _, _, _, _, _, h1⟩, _, ⟨_, _, _, h2, rfl, strKeys_of (by kernel_rfl), fun _ => rfl⟩, ?_, ?_⟩
  · kernel_rfl
  · kernel_rfl
theorem ci_inst {P : Params} {h : Heap} {x dx : Addr} (X : (KT P).In h) (hx : h.get? x = some (instObj 282 dx)) : h.CmpInst x 282 [.type "object"] := by
  obtain ⟨⟨nm, q, bs, hdct, sn, sub, ab, col, dd, k0, k1, k2, k3, k5, newId, hC⟩, mN, hn, he, hne⟩ := ci_in X
  exact ⟨_, nm, q, 281, bs, hdct, sn, sub, ab, col, dd, k0, k1, k2, k3, k5, newId, mN, hx, rfl, hC, hn, he, hne⟩
theorem compT_none {A : Around} {env : Env} {ct elt : Expr} {x : Str} {scope : Scope} {cl : List (Str × Addr)} {S : List (Addr × Obj) → Prop} {P : Nat → Value → Prop} {Fin : List Value → List (Addr × Obj) → Prop} {n : Nat} {nx : List (Addr × Obj)} (hS : S nx) (hfin : Fin [] nx)
    (hstep : ∀ i, i < n → ∀ v I oI C oC D m₂ h tk (E' : Value → Shared → Prop), P i v → LCg.NsObj oC m₂ → m₂ x = some v → Fr h₀ L h m → News h₀ L h ((I, oI) :: (C, oC) :: (D, LCg.lst []) :: nx) → LCg.Off3 I C D nx → ((@Ne Nat I C) ∧ (@Ne Nat I D) ∧ (@Ne Nat C D)) →
      wpAny (model prog w) A (isTrue ct (compEnvC scope cl C env) (eval ct (compEnvC scope cl C env))) (fun ok s' => ok = false ∧ ∃ h' tk', s' = { s with heap := h', toks := tk' } ∧ Fr h₀ L h' m ∧ News h₀ L h' ((I, oI) :: (C, oC) :: (D, LCg.lst []) :: nx)) E' { s with heap := h, toks := tk }) :
    ∀ j i, i + j = n → LCt.CompRestT prog w A h₀ L m env ct elt x scope cl s S P Fin j i [] nx := by
  intro j
  induction j with
  | zero => exact fun i _ => LCt.CompRestT.zero hfin
  | succ j ih =>
    intro i hi
    refine LCt.CompRestT.succ ?_
    intro v I oI C oC D m₂ hh tk E' hv hC hx F N off ne
    refine wpAny_mono (hstep i (by omega) v I oI C oC D m₂ hh tk E' hv hC hx F N off ne) (fun ok s' q => ?_) fun _ _ e => e
    obtain ⟨rfl, h', tk', rfl, F', N'⟩ := q
    simp only [Bool.false_eq_true, if_false]
    exact ⟨h', tk', nx, rfl, F', N', off, hS, ih (i + 1) (by omega)⟩
structure Pr where
  a : Addr
  k : Nat
  x : Addr
  z : Int
  tz : Tok
theorem tup_ne_dict {xs : List Value} {k n : Nat} {es : List DictEntry} : tupO xs k ≠ dictOf es n := fun e => by
  have := congrArg Obj.data e
  cases this
theorem law_tail {fa : Addr} {cd : Value} {bg : Bool} {gv : Option Value} {u : Str → Option Value} {R : Flow → Shared → Prop} {led : List (Addr × Obj)} {lb Db t d st fr ou up gl dg hp dh : Addr} {wsb : List Value} {ns : List Int} {tb : Int} {tkb : Tok}
    {es eg eh : List DictEntry} {n nv nf nu np ng nh : Nat} {ul : List U} {vs fs : List Value} {ps : List Pr} {v5 : Value} {T : Int} {tT : Tok}
    (X : (KT w.params).In h₀) (T' : Top p loose mean mg mb h₀) (B : Below callerA base [] h₀)
    (F : Fr h₀ L s.heap (fun y => if y = Str.ofString "is_begun" then some (.bool bg) else if y = Str.ofString "thread" then some (.ref t) else if y = Str.ofString "upvals" then some (.ref up) else if y = Str.ofString "broom" then some (.ref lb) else if y = Str.ofString "ground" then gv else u y))
    (N : News h₀ L s.heap led)
    (mb' : (lb, listOf [.ref Db, .int tb tkb].toArray 0) ∈ led) (mD : (Db, listOf wsb.toArray 0) ∈ led) (hIb : IntsAre wsb ns) (hnb : ns.length ≤ 30) (ht0 : 0 ≤ tb) (ht1 : tb < 900)
    (mt : (t, instObj 403 d) ∈ led) (md : (d, dictOf es n) ∈ led) (mst : (st, W.listOf vs.toArray nv) ∈ led) (mfr : (fr, W.listOf fs.toArray nf) ∈ led) (mou : (ou, W.listOf (refsU ul).toArray nu) ∈ led)
    (mgl : (gl, instObj 429 dg) ∈ led) (mdg : (dg, dictOf eg ng) ∈ led) (mhp : (hp, instObj 840 dh) ∈ led) (mdh : (dh, dictOf eh nh) ∈ led)
    (o1 : @LT.lt Nat _ Db lb) (o2 : @LT.lt Nat _ lb dg) (o3 : @LT.lt Nat _ dg gl) (o4 : @LT.lt Nat _ gl dh) (o5 : @LT.lt Nat _ dh hp) (o6 : @LT.lt Nat _ hp d) (o7 : @LT.lt Nat _ d t) (o8 : @LT.lt Nat _ t st) (o9 : @LT.lt Nat _ st fr) (o10 : @LT.lt Nat _ fr ou) (o11 : @LT.lt Nat _ ou up)
    (hU : ∀ r ∈ ul, r.Ok led t) (hnd : (ul.map (·.dx)).Nodup) (hi : ∀ r ∈ ul, 1 ≤ r.i ∧ r.i < T) (hlo : ∀ r ∈ ul, @LT.lt Nat _ up r.dx ∧ @LT.lt Nat _ up r.x)
    (hb : Dk thrKeys 900 es) (e1 : getL "open_upvals" es = some (some (.ref ou))) (e2 : getL "stack" es = some (some (.ref st))) (e3 : getL "glob" es = some (some (.ref gl)))
    (e6 : getL "frames" es = some (some (.ref fr))) (e7 : getL "top" es = some (some (.int T tT))) {u1 u2 u3 u4 : Value} (y1 : getL "ccalls" es = some (some u1)) (y2 : getL "handling" es = some (some u2)) (y3 : getL "is_over" es = some (some u3)) (y4 : getL "answers" es = some (some u4))
    (hbg : Dk glbKeys 900 eg) (e4 : getL "heap" eg = some (some (.ref hp))) (hbh : Dk plhKeys 900 eh) (e5 : getL "total" eh = some (some v5))
    (h2 : ul.length < 1000) (h3 : vs.length < 1000) (h4 : fs.length < 1000) (hT0 : 0 ≤ T) (hT1 : T ≤ vs.length)
    (hbT : bg = true → 1 ≤ T ∧ ∃ g0 dg0 fs', gv = some (.ref g0) ∧ fs = .ref g0 :: fs' ∧ (g0, instObj 282 dg0) ∈ led ∧ @Ne Nat g0 lb ∧ @Ne Nat g0 d ∧ @Ne Nat g0 ou ∧ @Ne Nat g0 fr ∧ @Ne Nat g0 st ∧ ∀ r ∈ ul, @Ne Nat g0 r.dx) (hbF : bg = false → T = 0 ∧ fs = [] ∧ ps = [])
    (hvs : ∀ j : Nat, j < vs.length → ((j : Int) < 1 ∨ T ≤ j) → vs[j]? = some .none)
    (mup : (up, W.listOf (ps.map fun q => Value.ref q.a).toArray np) ∈ led) (hps : ∀ q ∈ ps, (q.a, tupO [.ref q.x, .int q.z q.tz] q.k) ∈ led ∧ @LT.lt Nat _ up q.a ∧ ∃ r ∈ ul, r.x = q.x ∧ vs[r.i.toNat]? = some (.int q.z q.tz)) (hpl : ps.length < 1000)
    (hret : ∀ m' h' tk, Fr h₀ L h' m' → R (.ret (.bool true)) { s with heap := h', toks := tk }) :
    wpAny (model prog w) (callerA.deeper (envOf dT.name dT.scope L fa cd)) (execs (dT.body.drop 7) (envOf dT.name dT.scope L fa cd)) R E s := by
  have hO : Ord Db lb dg gl dh hp d t st fr ou up := ⟨o1, o2, o3, o4, o5, o6, o7, o8, o9, o10, o11⟩
  clear o1 o2 o3 o4 o5 o6 o7 o8 o9 o10 o11
  have hMk := kstMark
  have hSt := StopHere.mk
  have hSc := StopComp.mk
  obtain ⟨rest, hoff, N7, hrn, hin⟩ := news_cut N [(lb, listOf [.ref Db, .int tb tkb].toArray 0), (d, dictOf es n)] (all2 mb' md)
  simp only [List.map_cons, List.map_nil, List.cons_append, List.nil_append] at hoff N7
  have hqd : ∀ q ∈ ps, ∀ r ∈ ul, @Ne Nat q.a r.dx := fun q hq r hr => news_apart N (hps q hq).1 (hU r hr).dic tup_ne_dict
  clear N
  have xD := hin _ mD (off2 (by k_ne) (by k_ne))
  have xt := hin _ mt (off2 (by k_ne) (by k_ne))
  have xst := hin _ mst (off2 (by k_ne) (by k_ne))
  have xfr := hin _ mfr (off2 (by k_ne) (by k_ne))
  have xou := hin _ mou (off2 (by k_ne) (by k_ne))
  have xgl := hin _ mgl (off2 (by k_ne) (by k_ne))
  have xdg := hin _ mdg (off2 (by k_ne) (by k_ne))
  have xhp := hin _ mhp (off2 (by k_ne) (by k_ne))
  have xdh := hin _ mdh (off2 (by k_ne) (by k_ne))
  have hU2 : ∀ r ∈ ul, r.Ok rest t := fun r hr =>
    have h := hU r hr
    have h9 := hlo r hr
    ⟨hin _ h.obj (off2 (Nat.ne_of_gt (Nat.lt_trans hO.l1_11 h9.2)) (Nat.ne_of_gt (Nat.lt_trans hO.l6_11 h9.2))), hin _ h.dic (off2 (Nat.ne_of_gt (Nat.lt_trans hO.l1_11 h9.1)) (Nat.ne_of_gt (Nat.lt_trans hO.l6_11 h9.1))), h.dk, h.idx, h.thr, h.val⟩
  have hP2 : ∀ q ∈ ps, (q.a, tupO [.ref q.x, .int q.z q.tz] q.k) ∈ rest := fun q hq =>
    have h := (hps q hq).1
    have h9 := (hps q hq).2.1
    hin _ h (off2 (Nat.ne_of_gt (Nat.lt_trans hO.l1_11 h9)) (Nat.ne_of_gt (Nat.lt_trans hO.l6_11 h9)))
  have xup := hin _ mup (off2 (by k_ne) (by k_ne))
  have hg2 : bg = true → ∃ g0 dg0 fs', gv = some (.ref g0) ∧ fs = .ref g0 :: fs' ∧ (g0, instObj 282 dg0) ∈ rest ∧ @Ne Nat g0 d ∧ @Ne Nat g0 ou ∧ @Ne Nat g0 fr ∧ @Ne Nat g0 st ∧ ∀ r ∈ ul, @Ne Nat g0 r.dx := fun hbg => by
    obtain ⟨_, g0, dg0, fs', q1, q2, q3, q4, q5, q6⟩ := hbT hbg
    exact ⟨g0, dg0, fs', q1, q2, hin _ q3 (off2 q4 q5), q5, q6⟩
  have hbT1 : bg = true → 1 ≤ T := fun h => (hbT h).1
  clear hin hrn hU mb' mD mt md mst mfr mou mgl mdg mhp mdh mup hbT
  k_steps
  refine Stop.on ?_
  refine' c_swept (b := lb) (vs := wsb) (ns := ns) (nf := fun tk => (lb, listOf [.ref Db, .int (tb + 1) tk].toArray 0) :: (d, dictOf es n) :: rest) ?B ?F ?X ?N ?T ?hkk ?U1 ?hc1 hIb hnb ht0 (by omega) (by decide) (by decide) ?hd ?hu ?ret1
  k_extra "M pre"
  case U1 => (intro tk9; k_upd)
  case hc1 => k_mem
  intro r1 tr1 tk1 h1 tk1' hr10 hr11 F1 N1
  try dsimp only
  k_steps
  refine Stop.on ?_
  refine' c_swept (b := lb) (vs := wsb) (ns := ns) (t := tb + 1) (nf := fun tk => (lb, listOf [.ref Db, .int (tb + 1 + 1) tk].toArray 0) :: (d, dictOf es n) :: rest) ?B ?F ?X ?N ?T ?hkk ?U2 ?hc2 hIb hnb (by omega) (by omega) (by decide) (by decide) ?hd ?hu ?ret2
  k_extra "M pre"
  case U2 => (intro tk9; k_upd)
  case hc2 => k_mem
  intro r2 tr2 tk2 h2' tk2' hr20 hr21 F2 N2
  try dsimp only
  k_steps
  refine Stop.on ?_
  refine' c_grounded (es := es') (n := n') (d := d) (ul := ul) (vs := vs) (fs := fs) (st := st) (fr := fr) (ou := ou) (eg := eg) (eh := eh) (v5 := v5) (T := T) ?B ?F ?X ?N ?T ?hkk ?ht ?md ?mo ?ms ?mf (by k_ne) (by k_ne) (by k_ne) ?mg ?mdg ?mh ?mdh ?hU hnd ?hi ?hb ?e1 ?e2 ?e3 ?e6 ?e7 ?y1 ?y2 ?y3 ?y4 hbg e4 hbh e5 h2 h3 h4 hT0 hT1 ?hd ?hu ?ret3
  k_extra "M pre"
  case ht => k_mem
  case md => k_mem
  case mo => k_mem
  case ms => k_mem
  case mf => k_mem
  case mg => k_mem
  case mdg => k_mem
  case mh => k_mem
  case mdh => k_mem
  case hU => exact fun r hr => (hU2 r hr).mono fun _ h => .tail _ (.tail _ (.tail _ (.tail _ h)))
  case hi => exact fun r hr => by have := hi r hr; omega
  case hb => with_reducible assumption
  case e1 => k_extra "M getL"
  case e2 => k_extra "M getL"
  case e3 => k_extra "M getL"
  case e6 => k_extra "M getL"
  case e7 => k_extra "M getL"
  case y1 => k_extra "M getL"
  case y2 => k_extra "M getL"
  case y3 => k_extra "M getL"
  case y4 => k_extra "M getL"
  intro cls vs' es2 n2 nu' nf' led2 tT' tc th h3' tk3 hcl hC hall hvl hvc z1 z2 z3 z4 z5 zdk ztop zst zfr zou zcc zhd zan keep F3 N3
  try dsimp only
  have keepR : ∀ q ∈ rest, q.1 ≠ ou → (∀ r ∈ ul, q.1 ≠ r.dx) → q.1 ≠ fr → q.1 ≠ st → q.1 ≠ d → q ∈ led2 := fun q hq => keep q (.tail _ (.tail _ (.tail _ (.tail _ hq))))
  have wup : (up, W.listOf (ps.map fun q => Value.ref q.a).toArray np) ∈ led2 := keepR _ xup (by k_ne) (fun r hr => Nat.ne_of_lt (hlo r hr).1) (by k_ne) (by k_ne) (by k_ne)
  have wps : ∀ q ∈ ps, (q.a, tupO [.ref q.x, .int q.z q.tz] q.k) ∈ led2 := fun q hq => by
    have h9 := (hps q hq).2.1
    exact keepR _ (hP2 q hq) (Nat.ne_of_gt (Nat.lt_trans hO.l10_11 h9)) (hqd q hq) (Nat.ne_of_gt (Nat.lt_trans hO.l9_11 h9)) (Nat.ne_of_gt (Nat.lt_trans hO.l8_11 h9)) (Nat.ne_of_gt (Nat.lt_trans hO.l6_11 h9))
  have wpk : ∀ q ∈ ps, ∃ dx eu n, (q.x, instObj 221 dx) ∈ led2 ∧ (dx, dictOf eu n) ∈ led2 ∧ Dk upvKeys 900 eu ∧ getL "thread" eu = some (some .none) ∧ getL "value" eu = some (some (.int q.z q.tz)) := fun q hq => by
    obtain ⟨r, hr, hx, hv⟩ := (hps q hq).2.2
    obtain ⟨k, hk, hkx, hkv⟩ := hall r hr
    have hok := hC k hk
    rw [hv] at hkv
    have hkv := Option.some.inj hkv
    refine ⟨k.dx, k.eu, k.n, ?_, hok.dic, hok.dk, hok.thr, ?_⟩
    · rw [← hx, ← hkx]; exact hok.obj
    · rw [hok.val, ← hkv]
  have wvs : ∀ j : Nat, j < vs'.length → vs'[j]? = some .none := fun j hj => by
    rw [hvc j]
    by_cases hc : (if (1 : Int) < T then 1 else T) ≤ (j : Int) ∧ (j : Int) < T
    · rw [if_pos hc]
    · rw [if_neg hc]
      refine hvs j (by omega) ?_
      by_cases h1 : (1 : Int) < T
      · rw [if_pos h1] at hc; omega
      · rw [if_neg h1] at hc; omega
  have wg : bg = true → ∃ g0 dg0, gv = some (.ref g0) ∧ fs.take 1 = [.ref g0] ∧ (g0, instObj 282 dg0) ∈ led2 := fun hbg => by
    obtain ⟨g0, dg0, fs', q1, q2, q3, q4, q5, q6, q7, q8⟩ := hg2 hbg
    exact ⟨g0, dg0, q1, by rw [q2]; rfl, keepR _ q3 q5 q8 q6 q7 q4⟩
  clear keep keepR hC hall hvc hg2 hqd hP2 hps xD xt xst xfr xou xgl xdg xhp xdh xup hU2 hoff hvs hlo hi
  cases bg with
  | true =>
    obtain ⟨g0, dg0, rfl, hfs, mg0⟩ := wg rfl
    have hT1' := hbT1 rfl
    rw [hfs] at z5
    rw [show (if (1 : Int) < T then 1 else T) = 1 by split <;> omega] at ztop
    clear wg hbT1 hbF
    have hn0 : ([Value.ref g0] : List Value)[(0 : Int).toNat]? = some (.ref g0) := rfl
    k_steps
    rename News h₀ _ _ _ => nE
    refine compareOp_ne_same F.cmp_object (ci_inst (P := w.params) (x := g0) (dx := dg0) (X.keeps (Fr.keep (by k_asm))) (nE _ (.tail _ (.tail _ (.tail _ mg0)))).1) ?hu9 ?_
    case hu9 => ktr_units
    k_steps
    refine Stop.on ?_
    k_dflt (refine LCt.ListComp_T (F₀ := by k_asm) (by with_unfolding_all rfl) (by decide) (by rfl) (by decide) (by rfl) ?_)
    k_steps
    refine Stop.on ?_
    rename News h₀ _ _ _ => nF
    k_dflt (refine LCt.CompSrcT.ledger (its := vs'.toArray) (k := nv) (news := led2) (by rfl) (by k_asm) (news_sub nF (fun q hq => .tail _ (.tail _ (.tail _ hq)))) z4 (by rw [PySem.sizeLine_eq, List.size_toArray]; omega) ?_)
    intro g9
    refine compT_none (.inr ⟨_, z4, rfl, _, rfl⟩) ?finA ?stepA _ 0 (Nat.zero_add _)
    case stepA =>
      intro i hi v I oI C oC D m₂ h tk E' hv hC hx F9 N9 off ne
      have hvn : v = .none := by
        have h1 := wvs i (by simpa using hi)
        rw [List.getElem?_toArray, h1] at hv
        exact (Option.some.inj hv).symm
      subst hvn
      clear nF
      k_steps
      all_goals k_asm
    case finA =>
      unfold LCg.FinE
      intro D9 h9 tk9 F9 N9 o9
      try dsimp only
      k_steps
      refine Stop.on ?_
      rename News h₀ _ _ _ => nG
      k_dflt (refine ListComp_pairNo (F₀ := by k_asm) (by with_unfolding_all rfl) (by decide) (by rfl) (by decide) (by rfl) (by rfl) (by decide) ?_)
      k_steps
      refine ⟨up, ps.map fun q => Value.ref q.a, np, led2, rfl, rfl, by k_asm, news_sub nG (fun q hq => .tail _ (.tail _ (.tail _ (.tail _ hq)))), wup, ?prs, ?fin⟩
      case prs =>
        intro v hv
        obtain ⟨q, hq, rfl⟩ := List.mem_map.mp hv
        obtain ⟨dx, eu, nq, p1, p2, p3, p4, p5⟩ := wpk q hq
        refine ⟨q.a, _, _, q.k, rfl, wps q hq, ?_⟩
        intro g I oI C oC D m₂ h tk E' hC hx hy F8 N8 off8 ne8
        clear nG
        k_steps
        all_goals first | k_asm | exact absurd rfl ‹q.z ≠ q.z›
      case fin =>
        intro D8 h8 tk8 F8 N8 o8
        try dsimp only
        clear nG
        k_steps
        exact hret _ _ _ (by k_asm)
  | false =>
    obtain ⟨hT0', hfs, -⟩ := hbF rfl
    rw [hfs] at z5
    rw [show (if (1 : Int) < T then 1 else T) = 0 by split <;> omega] at ztop
    simp only [List.take_nil] at z5
    clear wg hbT1 hbF
    k_steps
    refine Stop.on ?_
    k_dflt (refine LCt.ListComp_T (F₀ := by k_asm) (by with_unfolding_all rfl) (by decide) (by rfl) (by decide) (by rfl) ?_)
    k_steps
    refine Stop.on ?_
    rename News h₀ _ _ _ => nF
    k_dflt (refine LCt.CompSrcT.ledger (its := vs'.toArray) (k := nv) (news := led2) (by rfl) (by k_asm) (news_sub nF (fun q hq => .tail _ (.tail _ (.tail _ hq)))) z4 (by rw [PySem.sizeLine_eq, List.size_toArray]; omega) ?_)
    intro g9
    refine compT_none (.inr ⟨_, z4, rfl, _, rfl⟩) ?finB ?stepB _ 0 (Nat.zero_add _)
    case stepB =>
      intro i hi v I oI C oC D m₂ h tk E' hv hC hx F9 N9 off ne
      have hvn : v = .none := by
        have h1 := wvs i (by simpa using hi)
        rw [List.getElem?_toArray, h1] at hv
        exact (Option.some.inj hv).symm
      subst hvn
      clear nF
      k_steps
      all_goals k_asm
    case finB =>
      unfold LCg.FinE
      intro D9 h9 tk9 F9 N9 o9
      try dsimp only
      k_steps
      refine Stop.on ?_
      rename News h₀ _ _ _ => nG
      k_dflt (refine ListComp_pairNo (F₀ := by k_asm) (by with_unfolding_all rfl) (by decide) (by rfl) (by decide) (by rfl) (by rfl) (by decide) ?_)
      k_steps
      refine ⟨up, ps.map fun q => Value.ref q.a, np, led2, rfl, rfl, by k_asm, news_sub nG (fun q hq => .tail _ (.tail _ (.tail _ (.tail _ hq)))), wup, ?prs2, ?fin2⟩
      case prs2 =>
        intro v hv
        obtain ⟨q, hq, rfl⟩ := List.mem_map.mp hv
        obtain ⟨dx, eu, nq, p1, p2, p3, p4, p5⟩ := wpk q hq
        refine ⟨q.a, _, _, q.k, rfl, wps q hq, ?_⟩
        intro g I oI C oC D m₂ h tk E' hC hx hy F8 N8 off8 ne8
        clear nG
        k_steps
        all_goals first | k_asm | exact absurd rfl ‹q.z ≠ q.z›
      case fin2 =>
        intro D8 h8 tk8 F8 N8 o8
        try dsimp only
        clear nG
        k_steps
        exact hret _ _ _ (by k_asm)
theorem upd_app {d : Addr} {o o' : Obj} {l l' : List (Addr × Obj)} (U : Upd d o o' l l') : ∀ {A : List (Addr × Obj)}, (∀ q ∈ A, @Ne Nat q.1 d) → Upd d o o' (A ++ l) (A ++ l')
  | [], _ => U
  | q :: A, h => .tail (h q (.head _)) (upd_app U fun r hr => h r (.tail _ hr))
theorem upd_at {d : Addr} {o o' : Obj} {A r : List (Addr × Obj)} (h1 : ∀ q ∈ A, @Ne Nat q.1 d) (h2 : ∀ q ∈ r, @Ne Nat q.1 d) : Upd d o o' (A ++ (d, o) :: r) (A ++ (d, o') :: r) := upd_app (.head h2) h1
/-- a cut with a part ahead that stays -/
theorem news_cutA {h : Heap} {A led : List (Addr × Obj)} (N : News h₀ L h (A ++ led)) (f : List (Addr × Obj)) (hf : ∀ q ∈ f, q ∈ led) : ∃ rest, (∀ q ∈ rest, ∀ p ∈ f, q.1 ≠ p.1) ∧ News h₀ L h (A ++ (f ++ rest)) ∧ (∀ q ∈ rest, q ∈ led) ∧ ∀ q ∈ led, (∀ p ∈ f, q.1 ≠ p.1) → q ∈ rest := by
  refine ⟨led.filter (fun q => decide (∀ p ∈ f, q.1 ≠ p.1)), ?_, ?_, ?_, ?_⟩
  · exact fun q hq => of_decide_eq_true (List.mem_filter.mp hq).2
  · intro q hq
    rcases List.mem_append.mp hq with hq | hq
    · exact N _ (List.mem_append.mpr (.inl hq))
    rcases List.mem_append.mp hq with hq | hq
    · exact N _ (List.mem_append.mpr (.inr (hf _ hq)))
    · exact N _ (List.mem_append.mpr (.inr (List.mem_filter.mp hq).1))
  · exact fun q hq => (List.mem_filter.mp hq).1
  · exact fun q hq h => List.mem_filter.mpr ⟨hq, decide_eq_true h⟩
theorem c_sweptA {b c : Addr} {nb nc : Nat} {vs : List Value} {ns : List Int} {t : Int} {tt tm : Tok} {many : Int} {A rest : List (Addr × Obj)}
    (B : Below A₀ base outer h₀) (F : Fr h₀ L s.heap m) (X : (KT w.params).In h₀) (N : News h₀ L s.heap (A ++ (b, W.listOf [.ref c, .int t tt].toArray nb) :: rest)) (T : Top p loose mean mg mb h₀) (hkk : cs.kind = .function)
    (h1 : ∀ q ∈ A, @Ne Nat q.1 b) (h2 : ∀ q ∈ rest, @Ne Nat q.1 b) (hc : (c, W.listOf vs.toArray nc) ∈ rest)
    (hi : IntsAre vs ns) (hlen : ns.length ≤ 30) (ht : 0 ≤ t) (ht2 : t < 1000) (hm : 0 < many) (hm2 : many < 1000) (hd : dp + 1 < recursionLimit) (hu : un + 8 < cLine)
    (hret : ∀ r tr tk2 h' tk', 0 ≤ r → r < many → Fr h₀ L h' m → News h₀ L h' (A ++ (b, W.listOf [.ref c, .int (t + 1) tk2].toArray nb) :: rest) → Q (.int r tr) { s with heap := h', toks := tk' }) :
    wpAny (model prog w) (ktrTop dp un gd cn cs L a ccd cl outer) (call (.ref 851) [.ref b, .int many tm]) Q E s :=
  c_swept (nf := fun tk => A ++ (b, W.listOf [.ref c, .int (t + 1) tk].toArray nb) :: rest) B F X N T hkk (fun _ => upd_at h1 h2) (List.mem_append.mpr (.inr (.tail _ hc))) hi hlen ht ht2 hm hm2 hd hu hret
theorem c_pushA {t d st : Addr} {es : List DictEntry} {n : Nat} {vs : List Value} {nv : Nat} {T : Int} {tT : Tok} {v : Value} {A rest : List (Addr × Obj)}
    (B : Below A₀ base outer h₀) (F : Fr h₀ L s.heap m) (X : (KT w.params).In h₀) (N : News h₀ L s.heap (A ++ (d, dictOf es n) :: (st, W.listOf vs.toArray nv) :: rest)) (T' : Top p loose mean mg mb h₀) (hkk : cs.kind = .function)
    (a1 : ∀ q ∈ A, @Ne Nat q.1 d) (a2 : ∀ q ∈ A, @Ne Nat q.1 st) (a3 : @Ne Nat st d) (a4 : ∀ q ∈ rest, @Ne Nat q.1 d) (a5 : ∀ q ∈ rest, @Ne Nat q.1 st) (ht : (t, instObj 403 d) ∈ rest)
    (e1 : getL "top" es = some (some (.int T tT))) (e2 : getL "stack" es = some (some (.ref st))) (hb : Dk thrKeys 900 es) (h0 : 0 ≤ T) (h1 : T < vs.length) (h2 : vs.length < 1000)
    (hd : dp + 1 < recursionLimit) (hu : un + 8 < cLine)
    (hret : ∀ tT' es' n' h' tk', getL "top" es' = some (some (.int (T + 1) tT')) → Sm "top" es' es → Dk thrKeys 900 es' → Fr h₀ L h' m → News h₀ L h' (A ++ (d, dictOf es' n') :: (st, W.listOf (vs.set T.toNat v).toArray nv) :: rest) → Q .none { s with heap := h', toks := tk' }) :
    wpAny (model prog w) (ktrTop dp un gd cn cs L a ccd cl outer) (call (.ref 337) [.ref t, v]) Q E s :=
  c_push (n1 := fun e' n' => A ++ (d, dictOf e' n') :: (st, W.listOf vs.toArray nv) :: rest) (n2 := fun e' n' => A ++ (d, dictOf e' n') :: (st, W.listOf (vs.set T.toNat v).toArray nv) :: rest) B F X N T' hkk (List.mem_append.mpr (.inr (.tail _ (.tail _ ht))))
    (fun _ _ => upd_at a1 (List.forall_mem_cons.mpr ⟨a3, a4⟩)) (fun _ _ => upd_app (.tail a3.symm (.head a5)) a2) e1 e2 hb (by decide) h0 h1 h2 hd hu hret
theorem c_pushfA {t d st fr : Addr} {es : List DictEntry} {n : Nat} {vs fs : List Value} {nv nf : Nat} {fn ba wa : Int} {tp : Int} {t1 t2 t3 t4 : Tok} {A rest : List (Addr × Obj)}
    (B : Below A₀ base outer h₀) (F : Fr h₀ L s.heap m) (X : (KT w.params).In h₀) (N : News h₀ L s.heap (A ++ (fr, W.listOf fs.toArray nf) :: rest)) (T' : Top p loose mean mg mb h₀) (hkk : cs.kind = .function)
    (a1 : ∀ q ∈ A, @Ne Nat q.1 fr) (a2 : ∀ q ∈ rest, @Ne Nat q.1 fr) (ht : (t, instObj 403 d) ∈ rest) (md : (d, dictOf es n) ∈ rest) (hst : (st, W.listOf vs.toArray nv) ∈ rest)
    (e1 : getL "stack" es = some (some (.ref st))) (hb : Dk thrKeys 900 es) (e2 : getL "frames" es = some (some (.ref fr))) (hsf : @Ne Nat st fr) (h0 : 0 ≤ tp) (h1 : tp ≤ vs.length) (h2 : vs.length < 1000) (h3 : fs.length < 1000)
    (hd : dp + 10 < recursionLimit) (hu : un + 50 < cLine)
    (hret : ∀ x h' tk', Fr h₀ L h' m → News h₀ L h' (A ++ (fr, W.listOf (fs ++ [Value.ref x]).toArray (nf + 1)) :: rest) → Q (.ref x) { s with heap := h', toks := tk' }) :
    wpAny (model prog w) (ktrTop dp un gd cn cs L a ccd cl outer) (call (.ref 379) [.ref t, .int fn t1, .int ba t2, .int tp t3, .int wa t4]) Q E s :=
  c_pushf (nn := fun x => A ++ (fr, W.listOf (fs ++ [Value.ref x]).toArray (nf + 1)) :: rest) B F X N T' hkk (List.mem_append.mpr (.inr (.tail _ ht))) (List.mem_append.mpr (.inr (.tail _ md))) (List.mem_append.mpr (.inr (.tail _ hst))) (fun _ => upd_at a1 a2) e1 hb e2 hsf h0 h1 h2 h3 hd hu hret
structure Cap where
  led : List (Addr × Obj)
  tb : Int
  tkb : Tok
  eh : List DictEntry
  nh : Nat
  ul : List U
  nu : Nat
  ps : List Pr
  np : Nat
noncomputable def prefs (ps : List Pr) : List Value := ps.map fun q => Value.ref q.a
theorem prefs_add {ps : List Pr} {q : Pr} : prefs (ps ++ [q]) = prefs ps ++ [Value.ref q.a] := by simp [prefs]
structure Cap.Ok (led0 : List (Addr × Obj)) (lb Db dh ou up t : Addr) (T : Int) (vs : List Value) (c : Cap) : Prop where
  mb : (lb, W.listOf [.ref Db, .int c.tb c.tkb].toArray 0) ∈ c.led
  mdh : (dh, dictOf c.eh c.nh) ∈ c.led
  mou : (ou, W.listOf (refsU c.ul).toArray c.nu) ∈ c.led
  mup : (up, W.listOf (prefs c.ps).toArray c.np) ∈ c.led
  keep : ∀ q ∈ led0, q.1 ≠ lb → q.1 ≠ dh → q.1 ≠ ou → q.1 ≠ up → q ∈ c.led
  dkh : Dk plhKeys 900 c.eh
  h1 : ∃ na ta, getL "last_number" c.eh = some (some (.int na ta))
  h2 : ∃ nb tb, getL "total" c.eh = some (some (.int nb tb))
  hU : ∀ r ∈ c.ul, r.Ok c.led t
  nd : (c.ul.map (·.dx)).Nodup
  hi : ∀ r ∈ c.ul, 1 ≤ r.i ∧ r.i < T
  lo : ∀ r ∈ c.ul, @LT.lt Nat _ up r.dx ∧ @LT.lt Nat _ up r.x
  hp : ∀ q ∈ c.ps, (q.a, tupO [.ref q.x, .int q.z q.tz] q.k) ∈ c.led ∧ @LT.lt Nat _ up q.a ∧ ∃ r ∈ c.ul, r.x = q.x ∧ vs[r.i.toNat]? = some (.int q.z q.tz)
  tb0 : 0 ≤ c.tb
theorem Cap.mono {led0 led' : List (Addr × Obj)} {lb Db dh ou up t : Addr} {T : Int} {vs : List Value} {c : Cap} (h : c.Ok led0 lb Db dh ou up t T vs) (hs : ∀ q ∈ c.led, q ∈ led') : Cap.Ok led0 lb Db dh ou up t T vs { c with led := led' } :=
  ⟨hs _ h.mb, hs _ h.mdh, hs _ h.mou, hs _ h.mup, fun q hq a b d e => hs _ (h.keep q hq a b d e), h.dkh, h.h1, h.h2, fun r hr => (h.hU r hr).mono hs, h.nd, h.hi, h.lo, fun q hq => ⟨hs _ (h.hp q hq).1, (h.hp q hq).2⟩, h.tb0⟩
/-- an open variable taken once more -/
theorem Cap.again {led0 rest : List (Addr × Obj)} {lb Db dh ou up t D : Addr} {T : Int} {vs : List Value} {c : Cap} {r : U} {z : Int} {tz tk : Tok} (h : c.Ok led0 lb Db dh ou up t T vs) (o1 : @LT.lt Nat _ lb up) (o2 : @LT.lt Nat _ dh up) (o3 : @LT.lt Nat _ ou up) (oD : @LT.lt Nat _ up D)
    (hin : ∀ q ∈ c.led, q.1 ≠ dh → q.1 ≠ ou → q.1 ≠ up → q.1 ≠ lb → q ∈ rest) (hr : r ∈ c.ul) (hv : vs[r.i.toNat]? = some (.int z tz)) :
    Cap.Ok led0 lb Db dh ou up t T vs ⟨(D, tupO [.ref r.x, .int z tz] 0) :: (dh, dictOf c.eh c.nh) :: (ou, W.listOf (refsU c.ul).toArray c.nu) :: (up, W.listOf (prefs c.ps ++ [Value.ref D]).toArray (c.np + 1)) :: (lb, W.listOf [.ref Db, .int (c.tb + 1) tk].toArray 0) :: rest, c.tb + 1, tk, c.eh, c.nh, c.ul, c.nu, c.ps ++ [⟨D, 0, r.x, z, tz⟩], c.np + 1⟩ := by
  have far : ∀ {x : Addr} {o : Obj}, @LT.lt Nat _ up x → (x, o) ∈ c.led → (x, o) ∈ rest := fun {x o} g m => hin _ m (fun e => by have e : x = dh := e; subst e; omega) (fun e => by have e : x = ou := e; subst e; omega) (fun e => by have e : x = up := e; subst e; omega) (fun e => by have e : x = lb := e; subst e; omega)
  have five : ∀ {q a b d e f : Addr × Obj} , q ∈ rest → q ∈ a :: b :: d :: e :: f :: rest := fun m => .tail _ (.tail _ (.tail _ (.tail _ (.tail _ m))))
  refine ⟨.tail _ (.tail _ (.tail _ (.tail _ (.head _)))), .tail _ (.head _), .tail _ (.tail _ (.head _)), by rw [prefs_add]; exact .tail _ (.tail _ (.tail _ (.head _))), fun q hq a b d e => five (hin _ (h.keep q hq a b d e) b d e a), h.dkh, h.h1, h.h2, fun q hq => ?_, h.nd, h.hi, h.lo, fun q hq => ?_, ?_⟩
  · have g := h.hU q hq
    have l := h.lo q hq
    exact ⟨five (far l.2 g.obj), five (far l.1 g.dic), g.dk, g.idx, g.thr, g.val⟩
  · rcases List.mem_append.mp hq with hq | hq
    · have g := h.hp q hq
      exact ⟨five (far g.2.1 g.1), g.2⟩
    · rw [List.mem_singleton.mp hq]
      exact ⟨.head _, oD, r, hr, rfl, hv⟩
  · have := h.tb0; dsimp only; omega
/-- a new open variable -/
theorem Cap.new {led0 rest : List (Addr × Obj)} {lb Db dh ou up t D : Addr} {T : Int} {vs : List Value} {c : Cap} {r : U} {z : Int} {tz tk ta' tb' : Tok} {na' nb' : Int} {e' : List DictEntry} {n' k : Nat} (h : c.Ok led0 lb Db dh ou up t T vs) (o1 : @LT.lt Nat _ lb up) (o2 : @LT.lt Nat _ dh up) (o3 : @LT.lt Nat _ ou up) (oD : @LT.lt Nat _ up D)
    (hin : ∀ q ∈ c.led, q.1 ≠ dh → q.1 ≠ ou → q.1 ≠ up → q.1 ≠ lb → q ∈ rest) (hv : vs[r.i.toNat]? = some (.int z tz)) (hri : 1 ≤ r.i ∧ r.i < T) (hk : Dk upvKeys 900 r.eu) (hx : getL "index" r.eu = some (some (.int r.i r.tk))) (ht : getL "thread" r.eu = some (some (.ref t))) (hvl : ∃ v, getL "value" r.eu = some (some v))
    (hk' : Dk plhKeys 900 e') (h1' : getL "last_number" e' = some (some (.int na' ta'))) (h2' : getL "total" e' = some (some (.int nb' tb'))) (hup : @LT.lt Nat _ up r.dx) (hxx : @LT.lt Nat _ r.dx r.x) (hnew : ∀ q ∈ c.ul, @Ne Nat q.dx r.dx) (hle : k ≤ c.ul.length) :
    Cap.Ok led0 lb Db dh ou up t T vs ⟨(D, tupO [.ref r.x, .int z tz] 0) :: (r.x, instObj 221 r.dx) :: (r.dx, dictOf r.eu r.n) :: (dh, dictOf e' n') :: (ou, W.listOf (refsU (insU c.ul k r)).toArray (c.nu + 1)) :: (up, W.listOf (prefs c.ps ++ [Value.ref D]).toArray (c.np + 1)) :: (lb, W.listOf [.ref Db, .int (c.tb + 1) tk].toArray 0) :: rest, c.tb + 1, tk, e', n', insU c.ul k r, c.nu + 1, c.ps ++ [⟨D, 0, r.x, z, tz⟩], c.np + 1⟩ := by
  have far : ∀ {x : Addr} {o : Obj}, @LT.lt Nat _ up x → (x, o) ∈ c.led → (x, o) ∈ rest := fun {x o} g m => hin _ m (fun e => by have e : x = dh := e; subst e; omega) (fun e => by have e : x = ou := e; subst e; omega) (fun e => by have e : x = up := e; subst e; omega) (fun e => by have e : x = lb := e; subst e; omega)
  have sev : ∀ {q a b d e f g i : Addr × Obj} , q ∈ rest → q ∈ a :: b :: d :: e :: f :: g :: i :: rest := fun m => .tail _ (.tail _ (.tail _ (.tail _ (.tail _ (.tail _ (.tail _ m))))))
  refine ⟨.tail _ (.tail _ (.tail _ (.tail _ (.tail _ (.tail _ (.head _)))))), .tail _ (.tail _ (.tail _ (.head _))), .tail _ (.tail _ (.tail _ (.tail _ (.head _)))), by rw [prefs_add]; exact .tail _ (.tail _ (.tail _ (.tail _ (.tail _ (.head _))))), fun q hq a b d e => sev (hin _ (h.keep q hq a b d e) b d e a), hk', ⟨_, _, h1'⟩, ⟨_, _, h2'⟩, fun q hq => ?_, ?_, fun q hq => ?_, fun q hq => ?_, fun q hq => ?_, ?_⟩
  · rcases insU_mem.mp hq with rfl | hq
    · exact ⟨.tail _ (.head _), .tail _ (.tail _ (.head _)), hk, hx, ht, hvl⟩
    · have g := h.hU q hq
      have l := h.lo q hq
      exact ⟨sev (far l.2 g.obj), sev (far l.1 g.dic), g.dk, g.idx, g.thr, g.val⟩
  · show ((insU c.ul k r).map (·.dx)).Nodup
    unfold insU
    rw [List.map_append, List.map_cons, List.perm_middle.nodup_iff, List.nodup_cons, ← List.map_append, List.take_append_drop]
    refine ⟨fun hm => ?_, h.nd⟩
    obtain ⟨q, hq, e⟩ := List.mem_map.mp hm
    exact hnew q hq e
  · rcases insU_mem.mp hq with rfl | hq
    · exact hri
    · exact h.hi q hq
  · rcases insU_mem.mp hq with rfl | hq
    · exact ⟨hup, Nat.lt_trans hup hxx⟩
    · exact h.lo q hq
  · rcases List.mem_append.mp hq with hq | hq
    · have g := h.hp q hq
      obtain ⟨r', hr', g3⟩ := g.2.2
      exact ⟨sev (far g.2.1 g.1), g.2.1, r', insU_mem.mpr (.inr hr'), g3⟩
    · rw [List.mem_singleton.mp hq]
      exact ⟨.head _, oD, r, insU_mem.mpr (.inl rfl), rfl, hv⟩
  · have := h.tb0; dsimp only; omega
theorem cut_all {h : Heap} {led f rest : List (Addr × Obj)} (N : News h₀ L h led) (hf : ∀ q ∈ f, q ∈ led) (hin : ∀ q ∈ led, (∀ p ∈ f, q.1 ≠ p.1) → q ∈ rest) : ∀ q ∈ led, q ∈ f ++ rest := by
  intro q hq
  by_cases hc : ∀ p ∈ f, q.1 ≠ p.1
  · exact List.mem_append.mpr (.inr (hin q hq hc))
  · obtain ⟨p, hp, e⟩ : ∃ p ∈ f, q.1 = p.1 := Classical.byContradiction fun hn => hc fun p hp e => hn ⟨p, hp, e⟩
    have h1 := (N _ hq).1
    rw [e, (N _ (hf p hp)).1] at h1
    have : q = p := Prod.ext e (Option.some.inj h1).symm
    exact List.mem_append.mpr (.inl (this ▸ hp))
theorem c_findA {t d ou gl dg hp dh : Addr} {es eg eh : List DictEntry} {n ng nh nu : Nat} {ul : List U} {i na nb : Int} {ti ta tb : Tok} {A rest : List (Addr × Obj)}
    (B : Below A₀ base outer h₀) (F : Fr h₀ L s.heap m) (X : (KT w.params).In h₀) (N : News h₀ L s.heap (A ++ (dh, dictOf eh nh) :: (ou, W.listOf (refsU ul).toArray nu) :: rest)) (T' : Top p loose mean mg mb h₀) (hkk : cs.kind = .function)
    (a1 : ∀ q ∈ A, @Ne Nat q.1 dh) (a2 : ∀ q ∈ A, @Ne Nat q.1 ou) (a3 : @Ne Nat ou dh) (a4 : ∀ q ∈ rest, @Ne Nat q.1 dh) (a5 : ∀ q ∈ rest, @Ne Nat q.1 ou)
    (ht : (t, instObj 403 d) ∈ rest) (md : (d, dictOf es n) ∈ rest) (mg' : (gl, instObj 429 dg) ∈ rest) (mdg : (dg, dictOf eg ng) ∈ rest) (mh : (hp, instObj 840 dh) ∈ rest)
    (hU : ∀ r ∈ ul, r.Ok rest t) (hb : Dk thrKeys 900 es) (e1 : getL "open_upvals" es = some (some (.ref ou))) (e2 : getL "glob" es = some (some (.ref gl)))
    (hbg : Dk glbKeys 900 eg) (e3 : getL "heap" eg = some (some (.ref hp))) (hbh : Dk plhKeys 900 eh) (e4 : getL "last_number" eh = some (some (.int na ta))) (e5 : getL "total" eh = some (some (.int nb tb))) (h2 : ul.length < 1000)
    (hd : dp + 50 < recursionLimit) (hu : un + 400 < cLine)
    (hret : ∀ r ∈ ul, r.i = i → ∀ h' tk', Fr h₀ L h' m → News h₀ L h' (A ++ (dh, dictOf eh nh) :: (ou, W.listOf (refsU ul).toArray nu) :: rest) → Q (.ref r.x) { s with heap := h', toks := tk' })
    (hnew : ∀ (r : U) na' nb' ta' tb' e' n' h' tk', r.i = i → Dk upvKeys 900 r.eu → getL "index" r.eu = some (some (.int r.i r.tk)) → getL "thread" r.eu = some (some (.ref t)) → (∃ v, getL "value" r.eu = some (some v)) →
      Dk plhKeys 900 e' → getL "last_number" e' = some (some (.int na' ta')) → getL "total" e' = some (some (.int nb' tb')) → (∀ q ∈ A ++ (dh, dictOf eh nh) :: (ou, W.listOf (refsU ul).toArray nu) :: rest, @LT.lt Nat _ q.1 r.dx) → @LT.lt Nat _ r.dx r.x →
      Fr h₀ L h' m → News h₀ L h' ((r.x, instObj 221 r.dx) :: (r.dx, dictOf r.eu r.n) :: (A ++ (dh, dictOf e' n') :: (ou, W.listOf (refsU (insU ul (spotN ul i) r)).toArray (nu + 1)) :: rest)) → Q (.ref r.x) { s with heap := h', toks := tk' }) :
    wpAny (model prog w) (ktrTop dp un gd cn cs L a ccd cl outer) (call (.ref 440) [.ref t, .int i ti]) Q E s :=
  have up2 : ∀ {q a b : Addr × Obj}, q ∈ rest → q ∈ A ++ a :: b :: rest := fun m => List.mem_append.mpr (.inr (.tail _ (.tail _ m)))
  c_find (n1 := fun e' n' => A ++ (dh, dictOf e' n') :: (ou, W.listOf (refsU ul).toArray nu) :: rest) (n2 := fun r e' n' => A ++ (dh, dictOf e' n') :: (ou, W.listOf (refsU (insU ul (spotN ul i) r)).toArray (nu + 1)) :: rest) B F X N T' hkk (up2 ht) (up2 md) (up2 mg') (up2 mdg) (up2 mh)
    (fun _ _ => upd_at a1 (List.forall_mem_cons.mpr ⟨a3, a4⟩)) (fun _ _ _ => upd_app (.tail a3.symm (.head a5)) a2) (fun r hr => (hU r hr).mono fun _ h => up2 h) hb e1 e2 hbg e3 hbh e4 e5 h2 hd hu hret
    (fun r na' nb' ta' tb' e' n' h' tk' hri hro _ k1 k2 k3 l1 l2 F' N' => hnew r na' nb' ta' tb' e' n' h' tk' hri hro.dk hro.idx hro.thr hro.val k1 k2 k3 l1 l2 F' N')
structure StopRng : Prop where
local macro_rules | `(tactic| walk_at "call type:range") => `(tactic| k_extra "M rstop")
structure StopTail : Prop where
local macro_rules | `(tactic| walk_at "execs cons") => `(tactic| k_extra "M tstop")
theorem fr_norm {h : Heap} {m : Str → Option Value} (F : Fr h₀ L h m) (a : Str) {v : Option Value} (e : m a = v) : Fr h₀ L h (fun y => if y = a then v else m y) := by
  have : m = fun y => if y = a then v else m y := funext fun y => by
    by_cases q : y = a
    · rw [if_pos q, q]; exact e
    · rw [if_neg q]
  rw [← this]
  exact F
theorem lines_law : True := by
  k_with "M tstop" => ((rename StopTail => hS6); (with_reducible show wpAny _ _ (execs (Stmt.Assign [Expr.Tuple _ _ _] _ _ :: _) _) _ _ _); refine Stop.out ?_)
  k_with "M rstop" => ((rename StopRng => hS7); refine Stop.out ?_)
  trivial
theorem law_body {fa : Addr} {cd : Value} {sc : Addr} {vs : List Value} {ns : List Int} {R : Flow → Shared → Prop}
    (X : (KT w.params).In h₀) (T' : Top p loose mean mg mb h₀) (B : Below A₀ base [] h₀) (hA0 : A₀ = callerA) (hL : h₀.IsList sc vs.toArray) (hI : IntsAre vs ns) (hn : ns.length ≤ 63)
    (F : Fr h₀ L s.heap (fun x => List.lookup x [(s252, .ref sc)])) (N : News h₀ L s.heap [])
    (hE : PassesOwn (model prog w) (callerA.deeper (envOf dT.name dT.scope L fa cd)) (envOf dT.name dT.scope L fa cd) E)
    (hret : ∀ m' h' tk, Fr h₀ L h' m' → R (.ret (.bool true)) { s with heap := h', toks := tk }) :
    wpAny (model prog w) (callerA.deeper (envOf dT.name dT.scope L fa cd)) (execs dT.body (envOf dT.name dT.scope L fa cd)) R E s := by
  have hMk := kstMark
  have hSt := StopHere.mk
  have hSc := StopComp.mk
  subst hA0
  have KX9 := X
  k_steps
  refine Stop.on ?_
  rename_i Db wsb hb1 hIb hCb hLb l1b lb hb2 l2b hb3 Fb Nb
  refine' c_mode (vs := wsb) (ns := ns.take 30) (nf := fun t' tk => [(lb, listOf [.ref Db, .int t' tk].toArray 0), (Db, listOf wsb.toArray 0)]) ?B ?F ?X ?N ?T ?hkk ?U ?hc hIb (List.length_take_le ..) (Int.le_refl _) (by decide) ?hd ?hu ?ret
  k_extra "M pre"
  case U => (intro t' tk9; k_upd)
  case hc => k_mem
  intro t1 tk1 h1 tk1' ht10 ht11 F1 N1
  clear Fb Nb
  try dsimp only
  k_steps
  refine Stop.on ?_
  refine' c_limits ?B ?F ?X ?N ?T ?hkk ?hd ?hu ?ret2
  k_extra "M pre"
  intro li dli eli nli h2 tk2 g1 g2 F2 N2
  k_lt g1
  try dsimp only
  k_steps
  refine Stop.on ?_
  refine' c_global ?B ?F ?X ?N ?T ?hkk ?hd ?hu ?ret3
  k_extra "M pre"
  rintro gl dg eg ng h3 tk3 hgk ⟨ug, hgh⟩ g3 g4 F3 N3
  k_lt g3
  try dsimp only
  k_steps
  refine Stop.on ?_
  refine' c_pheap ?B ?F ?X ?N ?T ?hkk ?hd ?hu ?ret4
  k_extra "M pre"
  rintro hp dh eh nh th1 th2 h4 tk4 hhk hh1 hh2 g5 g6 F4 N4
  k_lt g5
  try dsimp only
  k_steps
  refine Stop.on ?_
  have geH : getL "heap" es' = some (some (.ref hp)) := e1'
  have gdk : Dk glbKeys 900 es' := e3'
  refine' c_thread ?B ?F ?X ?N ?T ?hkk ?hd ?hu ?ret5
  k_extra "M pre"
  rintro t d st fr ou es n nst nfr nou tT h5 tk5 hk5 y1 y2 y3 y4 y5 ⟨uc, y6⟩ ⟨uh, y7⟩ ⟨uo, y8⟩ ⟨ua, y9⟩ g7 g8 g9 g10 g11 F5 N5
  k_lt g7
  try dsimp only
  k_steps
  refine Stop.on ?_
  rename_i up q1 lup D6 q2 lD6 q3 q4 q5 F6 N6
  have h30 : (ns.take 30).length ≤ 30 := List.length_take_le ..
  clear hCb
  obtain ⟨rest, hoff, N7, hrn, hin⟩ := news_cut N6 [(lb, listOf [.ref Db, .int t1 tk1].toArray 0)] (List.forall_mem_cons.mpr ⟨by k_mem, List.forall_mem_nil _⟩)
  simp only [List.map_cons, List.map_nil, List.cons_append, List.nil_append] at hoff N7
  have hO : Ord Db lb dg gl dh hp d t st fr ou up := ⟨by omega, g3.2.2.1, g4, g5.1, g6, g7.1, g8, g9, g10, g11, lup.1⟩
  clear g1 g2 g3 g4 g5 g6 g7 g8 g9 g10 g11 lup
  have mD : (Db, listOf wsb.toArray 0) ∈ rest := hin _ (by k_mem) (off1 (by k_ne))
  have mt : (t, instObj 403 d) ∈ rest := hin _ (by k_mem) (off1 (by k_ne))
  have md : (d, dictOf es n) ∈ rest := hin _ (by k_mem) (off1 (by k_ne))
  have mst : (st, W.listOf (List.replicate 20 Value.none).toArray nst) ∈ rest := hin _ (by k_mem) (off1 (by k_ne))
  have mfr : (fr, W.listOf ([] : List Value).toArray nfr) ∈ rest := hin _ (by k_mem) (off1 (by k_ne))
  have mou : (ou, W.listOf ([] : List Value).toArray nou) ∈ rest := hin _ (by k_mem) (off1 (by k_ne))
  have mup : (up, W.listOf ([] : List Value).toArray 0) ∈ rest := hin _ (by k_mem) (off1 (by k_ne))
  have mgl : (gl, instObj 429 dg) ∈ rest := hin _ (by k_mem) (off1 (by k_ne))
  have mdg : (dg, dictOf es' n') ∈ rest := hin _ (by k_mem) (off1 (by k_ne))
  have mhp : (hp, instObj 840 dh) ∈ rest := hin _ (by k_mem) (off1 (by k_ne))
  have mdh : (dh, dictOf eh nh) ∈ rest := hin _ (by k_mem) (off1 (by k_ne))
  clear N6 hin hrn
  refine' c_swept (b := lb) (vs := wsb) (ns := ns.take 30) (nf := fun tk => (lb, listOf [.ref Db, .int (t1 + 1) tk].toArray 0) :: rest) ?B ?F ?X ?N ?T ?hkk ?U6 ?hc6 hIb h30 ht10 (by omega) (by decide) (by decide) ?hd ?hu ?ret6
  k_extra "M pre"
  case U6 => (intro tk9; k_upd)
  case hc6 => exact .tail _ mD
  intro r6 tr6 tk6 h6 tk6' hr60 hr61 F6b N6b
  clear F6
  try dsimp only
  have hS7t := StopTail.mk
  k_steps
  · refine Stop.on ?_
    refine' c_ground (es := es) (n := n) (d := d) (st := st) (fr := fr) (nv := nst) (nf := nfr) ?B ?F ?X ?N ?T ?hkk ?htG ?mdG ?mstG ?mfrG (by k_ne) y1 y2 y3 hk5 ?hd ?hu ?ret7
    k_extra "M pre"
    case htG => exact .tail _ mt
    case mdG => exact .tail _ md
    case mstG => exact .tail _ mst
    case mfrG => exact .tail _ mfr
    intro g0 dg0 es2 n2 nv2 nf2 tT2 led2 h7 tk7 w1 w2 w3 w4 w5 w6 w7 keep7 F7 N7g
    try dsimp only
    have lbG : (lb, listOf [.ref Db, .int (t1 + 1) tk6].toArray 0) ∈ led2 := keep7 _ (.head _) (by k_ne) (by k_ne) (by k_ne)
    have zg1 : Ap g0 lb := news_apart N7g w4 lbG inst_ne_list
    have zg2 : Ap g0 d := news_apart N7g w4 w5 inst_ne_dict
    have zg3 : Ap g0 st := news_apart N7g w4 w6 inst_ne_list
    have zg4 : Ap g0 fr := news_apart N7g w4 w7 inst_ne_list
    have zg5 : Ap g0 ou := news_apart N7g w4 (keep7 _ (.tail _ mou) (by k_ne) (by k_ne) (by k_ne)) inst_ne_list
    have zg6 : Ap g0 up := news_apart N7g w4 (keep7 _ (.tail _ mup) (by k_ne) (by k_ne) (by k_ne)) inst_ne_list
    have zg7 : Ap g0 dh := news_apart N7g w4 (keep7 _ (.tail _ mdh) (by k_ne) (by k_ne) (by k_ne)) inst_ne_dict
    have k7 : ∀ q ∈ rest, q.1 ≠ d → q.1 ≠ st → q.1 ≠ fr → q ∈ led2 := fun q hq => keep7 q (.tail _ hq)
    have lb2 : (lb, listOf [.ref Db, .int (t1 + 1) tk6].toArray 0) ∈ led2 := keep7 _ (.head _) (by k_ne) (by k_ne) (by k_ne)
    have mD2 := k7 _ mD (by k_ne) (by k_ne) (by k_ne)
    have mt2 := k7 _ mt (by k_ne) (by k_ne) (by k_ne)
    have mou2 := k7 _ mou (by k_ne) (by k_ne) (by k_ne)
    have mup2 := k7 _ mup (by k_ne) (by k_ne) (by k_ne)
    have mgl2 := k7 _ mgl (by k_ne) (by k_ne) (by k_ne)
    have mdg2 := k7 _ mdg (by k_ne) (by k_ne) (by k_ne)
    have mhp2 := k7 _ mhp (by k_ne) (by k_ne) (by k_ne)
    have mdh2 := k7 _ mdh (by k_ne) (by k_ne) (by k_ne)
    clear k7 keep7 mD mt md mst mfr mou mup mgl mdg mhp mdh
    k_steps
    refine Stop.on ?_
    with_unfolding_all refine for_invF (hE := hE) (by k_asm) rfl rfl rfl ?_
    k_steps
    refine Stop.on ?_
    rename News h₀ _ _ _ => nA
    obtain ⟨rest3, hoff3, N8, hrn3, hin3⟩ := news_cut nA [(lb, listOf [.ref Db, .int (t1 + 1) tk6].toArray 0)] (List.forall_mem_cons.mpr ⟨lb2, List.forall_mem_nil _⟩)
    simp only [List.map_cons, List.map_nil, List.cons_append, List.nil_append] at hoff3 N8
    refine' c_swept (b := lb) (vs := wsb) (ns := ns.take 30) (t := t1 + 1) (nf := fun tk => (lb, listOf [.ref Db, .int (t1 + 1 + 1) tk].toArray 0) :: rest3) ?B ?F ?X ?N ?T ?hkk ?U8 ?hc8 hIb h30 (by omega) (by omega) (by decide) (by decide) ?hd ?hu ?ret8
    k_extra "M pre"
    case U8 => (intro tk9; k_upd)
    case hc8 => exact .tail _ (hin3 _ mD2 (off1 (by k_ne)))
    intro r8 tr8 tk8 h8 tk8' hr80 hr81 F8 N8b
    have hn8 : (r8 - 0).toNat ≤ 4 := by omega
    clear nA N8
    try dsimp only
    k_steps
    refine Stop.on ?_
    rename IsRange _ _ _ _ _ _ _ _ => hR
    rename Fr _ _ _ _ => lF
    rename News _ _ _ _ => lN
    have hOk0 : Fil.Ok ((lb, W.listOf [.ref Db, .int (t1 + 1 + 1) tk8].toArray 0) :: rest3) lb Db d st fr g0 es2 ⟨(lb, W.listOf [.ref Db, .int (t1 + 1 + 1) tk8].toArray 0) :: rest3, t1 + 1 + 1, tk8, es2, n2, List.replicate 21 Value.none, nv2, [.ref g0], nf2, 1, tT2⟩ :=
      ⟨.head _, .tail _ (hin3 _ w5 (off1 (by k_ne))), .tail _ (hin3 _ w6 (off1 (by k_ne))), .tail _ (hin3 _ w7 (off1 (by k_ne))), fun q hq _ _ _ _ => hq, w3, w1, ⟨fun _ _ => rfl⟩, ⟨[], rfl⟩, by simp, fun j hj _ => by rw [List.getElem?_replicate, if_pos hj], fun j h1 h2 => by dsimp only at h2; omega, Int.le_refl 1, by dsimp only; omega⟩
    refine' for_range (L := L) (σ := Fil) (n := (r8 - 0).toNat) rfl (fun c => c.led) (fun _ => []) [Str.ofString "value"] (fun i c => c.Ok ((lb, W.listOf [.ref Db, .int (t1 + 1 + 1) tk8].toArray 0) :: rest3) lb Db d st fr g0 es2 ∧ c.T ≤ 1 + 3 * (i : Int) ∧ c.fs.length ≤ 1 + i ∧ c.tb ≤ t1 + 2 + (i : Int)) ⟨(lb, W.listOf [.ref Db, .int (t1 + 1 + 1) tk8].toArray 0) :: rest3, t1 + 1 + 1, tk8, es2, n2, List.replicate 21 Value.none, nv2, [.ref g0], nf2, 1, tT2⟩ ?hhF hR (range_small (Int.le_refl 0) hr80 (by omega)) (range_size hr80) lF lN (List.forall_mem_nil _) ⟨hOk0, by dsimp only; omega, Nat.le_refl _, by dsimp only; omega⟩ ?turnF ?doneF
    case hhF => with_unfolding_all rfl
    case turnF =>
      rintro c i ti I oI u h9 tk9 hi9 ⟨hOk, hcT, hcf, hcb⟩ hne F9 N9
      try dsimp only at F9 N9 hne
      clear lF lN
      have hmt : (t, instObj 403 d) ∈ c.led := hOk.keep _ (.tail _ (hin3 _ mt2 (off1 (by k_ne)))) (by k_ne) (by k_ne) (by k_ne) (by k_ne)
      have hmD : (Db, W.listOf wsb.toArray 0) ∈ c.led := hOk.keep _ (.tail _ (hin3 _ mD2 (off1 (by k_ne)))) (by k_ne) (by k_ne) (by k_ne) (by k_ne)
      have hi4 : (i : Int) < 4 := by omega
      clear hi9 hr80 hr81 hn8
      have iLb : Ap lb I := hne (lb, _) hOk.mb
      have iD : Ap d I := hne (d, _) hOk.md
      have iSt : Ap st I := hne (st, _) hOk.mst
      have iFr : Ap fr I := hne (fr, _) hOk.mfr
      k_steps
      refine Stop.on ?_
      with_unfolding_all refine for_invF (hE := hE) (by k_asm) rfl rfl rfl ?_
      k_steps
      refine Stop.on ?_
      obtain ⟨restB, hoffB, NB, hrnB, hinB⟩ := news_cutA (A := [(I, oI)]) N9 [(lb, W.listOf [.ref Db, .int c.tb c.tkb].toArray 0)] (List.forall_mem_cons.mpr ⟨hOk.mb, List.forall_mem_nil _⟩)
      have hB1 : ∀ q ∈ c.led, q.1 ≠ lb → q ∈ restB := fun q hq h => hinB q hq (List.forall_mem_cons.mpr ⟨h, List.forall_mem_nil _⟩)
      refine' c_sweptA (A := [(I, oI)]) (b := lb) (vs := wsb) (ns := ns.take 30) (t := c.tb) (rest := restB) ?B ?F ?X ?N ?T ?hkk (List.forall_mem_cons.mpr ⟨iLb.symm, List.forall_mem_nil _⟩) (fun q hq => hoffB q hq _ (.head _)) (hB1 _ hmD (by k_ne)) hIb h30 hOk.tb0 (by omega) (by decide) (by decide) ?hd ?hu ?ret9
      k_extra "M pre"
      intro r9 tr9 tk9b h9b tk9' hr90 hr91 F9b N9b
      try dsimp only
      have hSr := StopRng.mk
      k_steps
      refine Stop.on ?_
      obtain ⟨z9, hz9⟩ : ∃ z, Stop (1 + r9 = z) := ⟨_, rfl⟩
      rw [show 1 + r9 = z9 from hz9]
      rename StopRng => hSr
      clear hSr
      k_steps
      refine Stop.on ?_
      rename IsRange _ _ _ _ _ _ _ _ => hR2
      rename Fr _ _ _ _ => lF2
      rename News _ _ _ _ => lN2
      have hz9 := Stop.out hz9
      have hn9 : (z9 - 0).toNat ≤ 3 := by omega
      have hn90 : 0 ≤ z9 := by omega
      refine' for_range (L := L) (σ := Fil) (n := (z9 - 0).toNat) rfl (fun c => (I, oI) :: c.led) (fun _ => []) [] (fun j c' => c'.Ok ((lb, W.listOf [.ref Db, .int (t1 + 1 + 1) tk8].toArray 0) :: rest3) lb Db d st fr g0 es2 ∧ c'.T ≤ 1 + 3 * (i : Int) + (j : Int) ∧ c'.fs.length ≤ 1 + i ∧ c'.tb ≤ t1 + 2 + (i : Int) + 1 ∧ ∀ q ∈ c'.led, @Ne Nat q.1 I) ⟨(lb, W.listOf [.ref Db, .int (c.tb + 1) tk9b].toArray 0) :: restB, c.tb + 1, tk9b, c.es, c.n, c.vs, c.nv, c.fs, c.nf, c.T, c.tT⟩ ?hhI hR2 (range_small (Int.le_refl 0) (by omega) (by omega)) (range_size (by omega)) lF2 lN2 (List.forall_mem_nil _) ⟨Fil.draw hOk (by k_ne) (by k_ne) (by k_ne) hB1, by dsimp only; omega, hcf, by dsimp only; omega, List.forall_mem_cons.mpr ⟨iLb, fun q hq => hne q (hrnB q hq)⟩⟩ ?turnI ?doneI
      case hhI => with_unfolding_all rfl
      case turnI =>
        rintro c' j tj I2 oI2 u2 h10 tk10 hj9 ⟨hOk', hcT', hcf', hcb', hcI'⟩ hne2 F10 N10
        have hj3 : (j : Int) < 3 := by omega
        clear hj9 hn9 hn90 hz9 hr90 hr91
        try dsimp only at F10 N10 hne2
        clear lF2 lN2
        have hmt' : (t, instObj 403 d) ∈ c'.led := hOk'.keep _ (.tail _ (hin3 _ mt2 (off1 (by k_ne)))) (by k_ne) (by k_ne) (by k_ne) (by k_ne)
        have ey2 : getL "stack" c'.es = some (some (.ref st)) := (hOk'.sm.at_ "stack" (by decide +kernel)).trans ((w2.at_ "stack" (by decide +kernel)).trans y2)
        have hmd' := hOk'.md
        have hdk' := hOk'.dk
        have htop' := hOk'.top
        have hmst' := hOk'.mst
        k_steps
        refine Stop.on ?_
        obtain ⟨restC, hoffC, NC, hrnC, hinC⟩ := news_cutA (A := [(I2, oI2), (I, oI)]) N10 [(d, dictOf c'.es c'.n), (st, W.listOf c'.vs.toArray c'.nv)] (all2 hmd' hmst')
        have hC1 : ∀ q ∈ c'.led, q.1 ≠ d → q.1 ≠ st → q ∈ restC := fun q hq x y => hinC q hq (List.forall_mem_cons.mpr ⟨x, List.forall_mem_cons.mpr ⟨y, List.forall_mem_nil _⟩⟩)
        have jI : Ap I I2 := hne2 (I, oI) (.head _)
        have jD : Ap d I2 := hne2 (d, _) (.tail _ hmd')
        have jSt : Ap st I2 := hne2 (st, _) (.tail _ hmst')
        have hvl' := hOk'.vl
        have hT1' := hOk'.T1
        refine' c_pushA (A := [(I2, oI2), (I, oI)]) (d := d) (st := st) (es := c'.es) (n := c'.n) (vs := c'.vs) (nv := c'.nv) (T := c'.T) (rest := restC) ?B ?F ?X ?N ?T ?hkk (List.forall_mem_cons.mpr ⟨jD.symm, List.forall_mem_cons.mpr ⟨iD.symm, List.forall_mem_nil _⟩⟩) (List.forall_mem_cons.mpr ⟨jSt.symm, List.forall_mem_cons.mpr ⟨iSt.symm, List.forall_mem_nil _⟩⟩) (by k_ne) (fun q hq => hoffC q hq _ (.head _)) (fun q hq => hoffC q hq _ (.tail _ (.head _))) (hC1 _ hmt' (by k_ne) (by k_ne)) htop' ey2 hdk' (by omega) (by omega) (by omega) ?hd ?hu ?ret10
        k_extra "M pre"
        intro tT3 es3 n3 h11 tk11 x1 x2 x3 F11 N11
        try dsimp only
        k_steps
        have hP3 := Fil.push (n1 := n3) (z := 100 * (0 + (i : Int)) + (0 + (j : Int))) (tz := tk10 + 1 + 1) hOk' (by omega) (by k_ne) (by k_ne) (by k_ne) (by k_ne) hC1 x1 x2 x3
        refine' my_end _ F11 N11 (.head _) (List.forall_mem_cons.mpr ⟨⟨.tail _ (.head _), jI⟩, List.forall_mem_cons.mpr ⟨⟨.tail _ (.tail _ (.head _)), jD⟩, List.forall_mem_cons.mpr ⟨⟨.tail _ (.tail _ (.tail _ (.head _))), jSt⟩, fun p hp => ⟨.tail _ (.tail _ (.tail _ (.tail _ hp))), hne2 p (.tail _ (hrnC p hp))⟩⟩⟩⟩) (List.forall_mem_nil _) (fun z8 q1 q2 q3 => ?smI) ⟨hP3, ?p1, hcf', hcb', List.forall_mem_cons.mpr ⟨iD, List.forall_mem_cons.mpr ⟨iSt, fun q hq => hcI' q (hrnC q hq)⟩⟩⟩
        case smI => simp [kstB, q1]
        case p1 => (dsimp only; omega)
      case doneI =>
        rintro c' u2 h10 tk10 ⟨hOk', hcT', hcf', hcb', hcI'⟩ F10 N10
        replace hcT' : c'.T ≤ 4 + 3 * (i : Int) := by omega
        clear hn9 hn90 hz9 hr90 hr91
        try dsimp only at F10 N10
        clear lF2 lN2
        have hmt' : (t, instObj 403 d) ∈ c'.led := hOk'.keep _ (.tail _ (hin3 _ mt2 (off1 (by k_ne)))) (by k_ne) (by k_ne) (by k_ne) (by k_ne)
        have ey2 : getL "stack" c'.es = some (some (.ref st)) := (hOk'.sm.at_ "stack" (by decide +kernel)).trans ((w2.at_ "stack" (by decide +kernel)).trans y2)
        have ey3 : getL "frames" c'.es = some (some (.ref fr)) := (hOk'.sm.at_ "frames" (by decide +kernel)).trans ((w2.at_ "frames" (by decide +kernel)).trans y3)
        have hmd' := hOk'.md
        have hdk' := hOk'.dk
        have htop' := hOk'.top
        have hmst' := hOk'.mst
        have hmfr' := hOk'.mfr
        have hvl' := hOk'.vl
        have hT1' := hOk'.T1
        k_steps
        refine Stop.on ?_
        obtain ⟨restD, hoffD, ND, hrnD, hinD⟩ := news_cutA (A := [(I, oI)]) N10 [(fr, W.listOf c'.fs.toArray c'.nf)] (List.forall_mem_cons.mpr ⟨hmfr', List.forall_mem_nil _⟩)
        have hD1 : ∀ q ∈ c'.led, q.1 ≠ fr → q ∈ restD := fun q hq x => hinD q hq (List.forall_mem_cons.mpr ⟨x, List.forall_mem_nil _⟩)
        refine' c_pushfA (A := [(I, oI)]) (d := d) (st := st) (fr := fr) (es := c'.es) (n := c'.n) (vs := c'.vs) (nv := c'.nv) (fs := c'.fs) (nf := c'.nf) (rest := restD) ?B ?F ?X ?N ?T ?hkk (List.forall_mem_cons.mpr ⟨iFr.symm, List.forall_mem_nil _⟩) (fun q hq => hoffD q hq _ (.head _)) (hD1 _ hmt' (by k_ne)) (hD1 _ hmd' (by k_ne)) (hD1 _ hmst' (by k_ne)) ey2 hdk' ey3 (by k_ne) (by omega) (by omega) (by omega) (by omega) ?hd ?hu ?ret11
        k_extra "M pre"
        intro x9 h11 tk11 F11 N11
        try dsimp only
        k_steps
        have hP4 := Fil.frame (x := x9) hOk' (by k_ne) (by k_ne) (by k_ne) hD1
        refine' my_end _ F11 N11 (.head _) (List.forall_mem_cons.mpr ⟨⟨.tail _ (.head _), iFr⟩, fun p hp => ⟨.tail _ (.tail _ hp), hcI' p (hrnD p hp)⟩⟩) (List.forall_mem_nil _) (fun z8 q1 q2 q3 => ?smO) ⟨hP4, ?p2, ?p3, ?p4⟩
        case smO =>
          have q4 : ¬ z8 = Str.ofString "value" := fun e => by subst e; exact absurd q3 (by decide +kernel)
          simp [kstB, q1, q4]
        case p2 => (dsimp only; omega)
        case p3 => (simp only [List.length_append, List.length_singleton]; omega)
        case p4 => (dsimp only; omega)
    case doneF =>
      rintro c u h9 tk9 ⟨hOk, hcT, hcf, hcb⟩ F9 N9
      replace hcT : c.T ≤ 13 := by omega
      replace hcf : c.fs.length ≤ 5 := by omega
      replace hcb : c.tb ≤ t1 + 6 := by omega
      clear hn8 hr80 hr81
      try dsimp only at F9 N9
      clear lF lN
      have kp : ∀ q ∈ led2, q.1 ≠ lb → q.1 ≠ d → q.1 ≠ st → q.1 ≠ fr → q ∈ c.led := fun q hq a1 a2 a3 a4 => hOk.keep q (.tail _ (hin3 q hq (off1 a1))) a1 a2 a3 a4
      have n1t := kp _ mt2 (by k_ne) (by k_ne) (by k_ne) (by k_ne)
      have n1D := kp _ mD2 (by k_ne) (by k_ne) (by k_ne) (by k_ne)
      have n1ou := kp _ mou2 (by k_ne) (by k_ne) (by k_ne) (by k_ne)
      have n1up := kp _ mup2 (by k_ne) (by k_ne) (by k_ne) (by k_ne)
      have n1gl := kp _ mgl2 (by k_ne) (by k_ne) (by k_ne) (by k_ne)
      have n1dg := kp _ mdg2 (by k_ne) (by k_ne) (by k_ne) (by k_ne)
      have n1hp := kp _ mhp2 (by k_ne) (by k_ne) (by k_ne) (by k_ne)
      have n1dh := kp _ mdh2 (by k_ne) (by k_ne) (by k_ne) (by k_ne)
      clear hin3 hrn3 hoff3 hOk0
      k_steps
      refine Stop.on ?_
      with_unfolding_all refine for_invF (hE := hE) (by k_asm) rfl rfl rfl ?_
      k_steps
      refine Stop.on ?_
      obtain ⟨restE, hoffE, NE, hrnE, hinE⟩ := news_cutA (A := []) N9 [(lb, W.listOf [.ref Db, .int c.tb c.tkb].toArray 0)] (List.forall_mem_cons.mpr ⟨hOk.mb, List.forall_mem_nil _⟩)
      have hE1 : ∀ q ∈ c.led, q.1 ≠ lb → q ∈ restE := fun q hq h => hinE q hq (List.forall_mem_cons.mpr ⟨h, List.forall_mem_nil _⟩)
      refine' c_sweptA (A := []) (b := lb) (vs := wsb) (ns := ns.take 30) (t := c.tb) (rest := restE) ?B ?F ?X ?N ?T ?hkk (List.forall_mem_nil _) (fun q hq => hoffE q hq _ (.head _)) (hE1 _ n1D (by k_ne)) hIb h30 hOk.tb0 (by omega) (by decide) (by decide) ?hd ?hu ?ret12
      k_extra "M pre"
      intro r12 tr12 tk12 h12 tk12' hr120 hr121 F12 N12
      have hr12s : Stop (r12 < 4) := hr121
      clear N9 NE hr121
      try dsimp only
      k_steps
      refine Stop.on ?_
      have hr121 := Stop.out hr12s
      have hn12 : (r12 - 0).toNat ≤ 3 := by omega
      rename IsRange _ _ _ _ _ _ _ _ => hR3
      rename Fr _ _ _ _ => lF3
      rename News _ _ _ _ => lN3
      have hvl := hOk.vl
      have hT1 := hOk.T1
      have htb0 := hOk.tb0
      refine' for_range (L := L) (σ := Cap) (n := (r12 - 0).toNat) rfl (fun c => c.led) (fun _ => []) [Str.ofString "index"] (fun i c' => c'.Ok ((lb, W.listOf [.ref Db, .int (c.tb + 1) tk12].toArray 0) :: restE) lb Db dh ou up t c.T c.vs ∧ c'.tb ≤ c.tb + 1 + (i : Int) ∧ c'.ul.length ≤ i ∧ c'.ps.length ≤ i) ⟨(lb, W.listOf [.ref Db, .int (c.tb + 1) tk12].toArray 0) :: restE, c.tb + 1, tk12, eh, nh, [], nou, [], 0⟩ ?hhC hR3 (range_small (Int.le_refl 0) hr120 (by omega)) (range_size hr120) lF3 lN3 (List.forall_mem_nil _) ⟨⟨.head _, .tail _ (hE1 _ n1dh (by k_ne)), .tail _ (hE1 _ n1ou (by k_ne)), .tail _ (hE1 _ n1up (by k_ne)), fun q hq _ _ _ _ => hq, hhk, ⟨_, _, hh1⟩, ⟨_, _, hh2⟩, List.forall_mem_nil _, List.nodup_nil, List.forall_mem_nil _, List.forall_mem_nil _, List.forall_mem_nil _, by dsimp only; omega⟩, by dsimp only; omega, Nat.le_refl _, Nat.le_refl _⟩ ?turnC ?doneC
      case hhC => with_unfolding_all rfl
      case turnC =>
        rintro cc i ti I oI u2 h13 tk13 hi13 ⟨hC, hcb2, hcu, hcp⟩ hne3 F13 N13
        replace hi13 : i < 3 := by omega
        clear hn12 hr120 hr121 hr12s
        try dsimp only at F13 N13 hne3
        clear lF3 lN3
        have kq : ∀ q ∈ c.led, q.1 ≠ lb → q.1 ≠ dh → q.1 ≠ ou → q.1 ≠ up → q ∈ cc.led := fun q hq a b e f => hC.keep q (.tail _ (hE1 q hq a)) a b e f
        have iLb : Ap lb I := hne3 (lb, _) hC.mb
        have iDh : Ap dh I := hne3 (dh, _) hC.mdh
        have iOu : Ap ou I := hne3 (ou, _) hC.mou
        have iUp : Ap up I := hne3 (up, _) hC.mup
        obtain ⟨restG, hoffG, NG, hrnG, hinG⟩ := news_cutA (A := [(I, oI)]) N13 [(dh, dictOf cc.eh cc.nh), (ou, W.listOf (refsU cc.ul).toArray cc.nu), (up, W.listOf (prefs cc.ps).toArray cc.np), (lb, W.listOf [.ref Db, .int cc.tb cc.tkb].toArray 0)] (all4 hC.mdh hC.mou hC.mup hC.mb)
        have hG1 : ∀ q ∈ cc.led, q.1 ≠ dh → q.1 ≠ ou → q.1 ≠ up → q.1 ≠ lb → q ∈ restG := fun q hq a b e f => hinG q hq (List.forall_mem_cons.mpr ⟨a, List.forall_mem_cons.mpr ⟨b, List.forall_mem_cons.mpr ⟨e, List.forall_mem_cons.mpr ⟨f, List.forall_mem_nil _⟩⟩⟩⟩)
        have hoffO : OwnOff restG [dh, ou, up, lb] := fun q hq => List.forall_mem_cons.mpr ⟨hoffG q hq _ (.head _), List.forall_mem_cons.mpr ⟨hoffG q hq _ (.tail _ (.head _)), List.forall_mem_cons.mpr ⟨hoffG q hq _ (.tail _ (.tail _ (.head _))), List.forall_mem_cons.mpr ⟨hoffG q hq _ (.tail _ (.tail _ (.tail _ (.head _)))), List.forall_mem_nil _⟩⟩⟩⟩
        have hall4 := cut_all (news_sub N13 fun q hq => .tail _ hq) (all4 hC.mdh hC.mou hC.mup hC.mb) hinG
        have v1t := hG1 _ (kq _ n1t (by k_ne) (by k_ne) (by k_ne) (by k_ne)) (by k_ne) (by k_ne) (by k_ne) (by k_ne)
        have v1D := hG1 _ (kq _ n1D (by k_ne) (by k_ne) (by k_ne) (by k_ne)) (by k_ne) (by k_ne) (by k_ne) (by k_ne)
        have v1d := hG1 _ (kq _ hOk.md (by k_ne) (by k_ne) (by k_ne) (by k_ne)) (by k_ne) (by k_ne) (by k_ne) (by k_ne)
        have v1st := hG1 _ (kq _ hOk.mst (by k_ne) (by k_ne) (by k_ne) (by k_ne)) (by k_ne) (by k_ne) (by k_ne) (by k_ne)
        have v1gl := hG1 _ (kq _ n1gl (by k_ne) (by k_ne) (by k_ne) (by k_ne)) (by k_ne) (by k_ne) (by k_ne) (by k_ne)
        have v1dg := hG1 _ (kq _ n1dg (by k_ne) (by k_ne) (by k_ne) (by k_ne)) (by k_ne) (by k_ne) (by k_ne) (by k_ne)
        have v1hp := hG1 _ (kq _ n1hp (by k_ne) (by k_ne) (by k_ne) (by k_ne)) (by k_ne) (by k_ne) (by k_ne) (by k_ne)
        have NG2 : News h₀ L h13 ([(I, oI), (dh, dictOf cc.eh cc.nh), (ou, W.listOf (refsU cc.ul).toArray cc.nu), (up, W.listOf (prefs cc.ps).toArray cc.np)] ++ (lb, W.listOf [.ref Db, .int cc.tb cc.tkb].toArray 0) :: restG) := NG
        have htop := hOk.top
        have hdk := hOk.dk
        clear N13 NG
        k_steps
        · refine Stop.on ?_
          refine' c_sweptA (A := [(I, oI), (dh, dictOf cc.eh cc.nh), (ou, W.listOf (refsU cc.ul).toArray cc.nu), (up, W.listOf (prefs cc.ps).toArray cc.np)]) (b := lb) (vs := wsb) (ns := ns.take 30) (t := cc.tb) (rest := restG) ?B ?F ?X ?N ?T ?hkk (List.forall_mem_cons.mpr ⟨iLb.symm, List.forall_mem_cons.mpr ⟨by k_ne, List.forall_mem_cons.mpr ⟨by k_ne, List.forall_mem_cons.mpr ⟨by k_ne, List.forall_mem_nil _⟩⟩⟩⟩) (fun q hq => hoffG q hq _ (.tail _ (.tail _ (.tail _ (.head _))))) v1D hIb h30 hC.tb0 (by omega) (by omega) (by omega) ?hd ?hu ?ret13
          k_extra "M pre"
          intro r13 tr13 tk13b h13b tk13' hr130 hr131 F13b N13b
          clear NG2
          try dsimp only
          obtain ⟨z, tz, hvz⟩ := hOk.v1 (1 + r13).toNat (by omega) (by omega)
          have hU5 : ∀ r ∈ cc.ul, r.Ok restG t := fun r hr =>
            have g := hC.hU r hr
            have l := hC.lo r hr
            ⟨hG1 _ g.obj (Nat.ne_of_gt (Nat.lt_trans hO.l4_11 l.2)) (Nat.ne_of_gt (Nat.lt_trans hO.l10_11 l.2)) (Nat.ne_of_gt l.2) (Nat.ne_of_gt (Nat.lt_trans hO.l1_11 l.2)), hG1 _ g.dic (Nat.ne_of_gt (Nat.lt_trans hO.l4_11 l.1)) (Nat.ne_of_gt (Nat.lt_trans hO.l10_11 l.1)) (Nat.ne_of_gt l.1) (Nat.ne_of_gt (Nat.lt_trans hO.l1_11 l.1)), g.dk, g.idx, g.thr, g.val⟩
          have hpl5 : (prefs cc.ps).length < 1000 := by rw [show (prefs cc.ps).length = cc.ps.length by simp [prefs]]; omega
          obtain ⟨na5, ta5, hna5⟩ := hC.h1
          obtain ⟨nb5, tb5, hnb5⟩ := hC.h2
          have eo5 : getL "open_upvals" c.es = some (some (.ref ou)) := (hOk.sm.at_ "open_upvals" (by decide +kernel)).trans ((w2.at_ "open_upvals" (by decide +kernel)).trans y4)
          have eg5 : getL "glob" c.es = some (some (.ref gl)) := (hOk.sm.at_ "glob" (by decide +kernel)).trans ((w2.at_ "glob" (by decide +kernel)).trans y5)
          have es5 : getL "stack" c.es = some (some (.ref st)) := (hOk.sm.at_ "stack" (by decide +kernel)).trans ((w2.at_ "stack" (by decide +kernel)).trans y2)
          k_steps
          refine Stop.on ?_
          refine' c_findA (A := [(I, oI)]) (d := d) (ou := ou) (gl := gl) (dg := dg) (hp := hp) (dh := dh) (es := c.es) (eg := es') (eh := cc.eh) (n := c.n) (ng := n') (nh := cc.nh) (nu := cc.nu) (ul := cc.ul) (rest := (up, W.listOf (prefs cc.ps).toArray cc.np) :: (lb, W.listOf [.ref Db, .int (cc.tb + 1) tk13b].toArray 0) :: restG) ?B ?F ?X ?N ?T ?hkk (List.forall_mem_cons.mpr ⟨iDh.symm, List.forall_mem_nil _⟩) (List.forall_mem_cons.mpr ⟨iOu.symm, List.forall_mem_nil _⟩) (by k_ne) (List.forall_mem_cons.mpr ⟨by k_ne, List.forall_mem_cons.mpr ⟨by k_ne, fun q hq => hoffG q hq _ (.head _)⟩⟩) (List.forall_mem_cons.mpr ⟨by k_ne, List.forall_mem_cons.mpr ⟨by k_ne, fun q hq => hoffG q hq _ (.tail _ (.head _))⟩⟩) (.tail _ (.tail _ v1t)) (.tail _ (.tail _ v1d)) (.tail _ (.tail _ v1gl)) (.tail _ (.tail _ v1dg)) (.tail _ (.tail _ v1hp)) (fun r hr => (hU5 r hr).mono fun _ h => .tail _ (.tail _ h)) hdk eo5 eg5 gdk geH hC.dkh hna5 hnb5 (by omega) ?hd ?hu ?retX ?retY
          k_extra "M pre"
          case retX =>
            intro r hr hri h14 tk14 F14 N14
            simp only [List.cons_append, List.nil_append] at N14
            try dsimp only
            k_steps
            rename News _ _ _ _ => nK
            simp only [List.push_toArray] at nK
            rename _ ∧ _ ∧ _ ∧ _ ∧ _ ∧ AllLt _ restG => lD
            have hP5 := fun (D : Addr) (oD : @LT.lt Nat _ up D) => Cap.again (D := D) (tk := tk13b) hC hO.l1_11 hO.l4_11 hO.l10_11 oD hG1 hr (by rw [hri]; exact hvz)
            refine' my_end _ (by k_asm) nK (.tail _ (.head _)) (List.forall_mem_cons.mpr ⟨⟨.head _, by k_ne⟩, List.forall_mem_cons.mpr ⟨⟨.tail _ (.tail _ (.head _)), iDh⟩, List.forall_mem_cons.mpr ⟨⟨.tail _ (.tail _ (.tail _ (.head _))), iOu⟩, List.forall_mem_cons.mpr ⟨⟨.tail _ (.tail _ (.tail _ (.tail _ (.head _)))), iUp⟩, List.forall_mem_cons.mpr ⟨⟨.tail _ (.tail _ (.tail _ (.tail _ (.tail _ (.head _))))), iLb⟩, fun p hp => ⟨.tail _ (.tail _ (.tail _ (.tail _ (.tail _ (.tail _ hp))))), hne3 p (hrnG p hp)⟩⟩⟩⟩⟩⟩) (List.forall_mem_nil _) (fun z8 q1 q2 q3 => ?smX) ⟨hP5 _ lD.2.2.2.1, ?p5X, ?p6X, ?p7X⟩
            case smX =>
              have q4 : ¬ z8 = Str.ofString "index" := fun e => by subst e; exact absurd q3 (by decide +kernel)
              simp [kstB, q1, q4]
            case p5X => (dsimp only; omega)
            case p6X => (dsimp only; omega)
            case p7X => (simp only [List.length_append, List.length_singleton]; omega)
          case retY =>
            intro r na' nb' ta' tb' e' n'' h14 tk14 hri hrk hrx hrt hrv hk' hn' ht' hl1 hl2 F14 N14
            simp only [List.cons_append, List.nil_append] at N14 hl1
            have hl0 := hl1
            k_lt hl1
            try dsimp only
            k_steps
            rename News _ _ _ _ => nK
            simp only [List.push_toArray] at nK
            rename _ ∧ _ ∧ _ ∧ _ ∧ _ ∧ _ ∧ _ ∧ AllLt _ restG => lD
            have hP6 := fun (D : Addr) (oD : @LT.lt Nat _ up D) => Cap.new (D := D) (tk := tk13b) (k := spotN cc.ul (1 + r13)) (n' := n'') hC hO.l1_11 hO.l4_11 hO.l10_11 oD hG1 (by rw [hri]; exact hvz) ⟨by omega, by omega⟩ hrk hrx hrt hrv hk' hn' ht' (by omega) hl2 (fun q hq => Nat.ne_of_lt (hl0 _ (.tail _ (.tail _ (.tail _ (.tail _ (.tail _ (hU5 q hq).dic))))))) (spotN_le _ _)
            refine' my_end _ (by k_asm) nK (.tail _ (.tail _ (.tail _ (.head _)))) (List.forall_mem_cons.mpr ⟨⟨.head _, by k_ne⟩, List.forall_mem_cons.mpr ⟨⟨.tail _ (.head _), by k_ne⟩, List.forall_mem_cons.mpr ⟨⟨.tail _ (.tail _ (.head _)), by k_ne⟩, List.forall_mem_cons.mpr ⟨⟨.tail _ (.tail _ (.tail _ (.tail _ (.head _)))), iDh⟩, List.forall_mem_cons.mpr ⟨⟨.tail _ (.tail _ (.tail _ (.tail _ (.tail _ (.head _))))), iOu⟩, List.forall_mem_cons.mpr ⟨⟨.tail _ (.tail _ (.tail _ (.tail _ (.tail _ (.tail _ (.head _)))))), iUp⟩, List.forall_mem_cons.mpr ⟨⟨.tail _ (.tail _ (.tail _ (.tail _ (.tail _ (.tail _ (.tail _ (.head _))))))), iLb⟩, fun p hp => ⟨.tail _ (.tail _ (.tail _ (.tail _ (.tail _ (.tail _ (.tail _ (.tail _ hp))))))), hne3 p (hrnG p hp)⟩⟩⟩⟩⟩⟩⟩⟩) (List.forall_mem_nil _) (fun z8 q1 q2 q3 => ?smY) ⟨hP6 _ lD.2.2.2.2.2.1, ?p5Y, ?p6Y, ?p7Y⟩
            case smY =>
              have q4 : ¬ z8 = Str.ofString "index" := fun e => by subst e; exact absurd q3 (by decide +kernel)
              simp [kstB, q1, q4]
            case p5Y => (dsimp only; omega)
            case p6Y => (have := insU_len (r := r) (spotN_le cc.ul (1 + r13)); dsimp only; omega)
            case p7Y => (simp only [List.length_append, List.length_singleton]; omega)
        · refine' my_end { cc with led := [(dh, dictOf cc.eh cc.nh), (ou, W.listOf (refsU cc.ul).toArray cc.nu), (up, W.listOf (prefs cc.ps).toArray cc.np), (lb, W.listOf [.ref Db, .int cc.tb cc.tkb].toArray 0)] ++ restG } (by k_asm) NG2 (.head _) (List.forall_mem_cons.mpr ⟨⟨.tail _ (.head _), iDh⟩, List.forall_mem_cons.mpr ⟨⟨.tail _ (.tail _ (.head _)), iOu⟩, List.forall_mem_cons.mpr ⟨⟨.tail _ (.tail _ (.tail _ (.head _))), iUp⟩, List.forall_mem_cons.mpr ⟨⟨.tail _ (.tail _ (.tail _ (.tail _ (.head _)))), iLb⟩, fun p hp => ⟨.tail _ (.tail _ (.tail _ (.tail _ (.tail _ hp)))), hne3 p (hrnG p hp)⟩⟩⟩⟩⟩) (List.forall_mem_nil _) (fun z8 q1 q2 q3 => ?smC) ⟨Cap.mono hC hall4, ?p5, ?p6, ?p7⟩
          case smC =>
            have q4 : ¬ z8 = Str.ofString "index" := fun e => by subst e; exact absurd q3 (by decide +kernel)
            simp [kstB, q1, q4]
          case p5 => (dsimp only; omega)
          case p6 => (dsimp only; omega)
          case p7 => (dsimp only; omega)
      case doneC =>
        rintro cc u2 h13 tk13 ⟨hC, hcb2, hcu, hcp⟩ F13 N13
        replace hcb2 : cc.tb ≤ c.tb + 4 := by omega
        replace hcu : cc.ul.length ≤ 3 := by omega
        replace hcp : cc.ps.length ≤ 3 := by omega
        clear hn12 hr120 hr121 hr12s
        try dsimp only at F13 N13
        clear lF3 lN3
        have kq : ∀ q ∈ c.led, q.1 ≠ lb → q.1 ≠ dh → q.1 ≠ ou → q.1 ≠ up → q ∈ cc.led := fun q hq a b e f => hC.keep q (.tail _ (hE1 q hq a)) a b e f
        obtain ⟨fs', hfs'⟩ := hOk.fs0
        obtain ⟨nb5, tb5, hnb5⟩ := hC.h2
        have ch : ∀ {y : Str} {v : Value}, y ≠ "top" → getL y es = some (some v) → getL y c.es = some (some v) := fun hy h => (hOk.sm.at_ _ hy).trans ((w2.at_ _ hy).trans h)
        have mg0 : (g0, instObj 282 dg0) ∈ cc.led := kq _ (kp _ w4 zg1 zg2 zg3 zg4) zg1 zg7 zg5 zg6
        k_steps
        refine Stop.on ?_
        have FT := fr_norm (fr_norm (fr_norm (fr_norm (fr_norm (by k_asm : Fr h₀ L h13 _) (Str.ofString "ground") (v := some (.ref g0)) (by with_unfolding_all rfl)) (Str.ofString "broom") (v := some (.ref lb)) (by with_unfolding_all rfl)) (Str.ofString "upvals") (v := some (.ref up)) (by with_unfolding_all rfl)) (Str.ofString "thread") (v := some (.ref t)) (by with_unfolding_all rfl)) (Str.ofString "is_begun") (v := some (.bool (decide (0 < r6)))) (by with_unfolding_all rfl)
        refine' law_tail (bg := decide (0 < r6)) (gv := some (.ref g0)) (led := cc.led) (lb := lb) (Db := Db) (t := t) (d := d) (st := st) (fr := fr) (ou := ou) (up := up) (gl := gl) (dg := dg) (hp := hp) (dh := dh) (wsb := wsb) (ns := ns.take 30) (es := c.es) (eg := es') (eh := cc.eh) (ul := cc.ul) (vs := c.vs) (fs := c.fs) (ps := cc.ps) (T := c.T) KX9 T' B FT N13 hC.mb (kq _ n1D (by k_ne) (by k_ne) (by k_ne) (by k_ne)) hIb h30 hC.tb0 (by omega) (kq _ n1t (by k_ne) (by k_ne) (by k_ne) (by k_ne)) (kq _ hOk.md (by k_ne) (by k_ne) (by k_ne) (by k_ne)) (kq _ hOk.mst (by k_ne) (by k_ne) (by k_ne) (by k_ne)) (kq _ hOk.mfr (by k_ne) (by k_ne) (by k_ne) (by k_ne)) hC.mou (kq _ n1gl (by k_ne) (by k_ne) (by k_ne) (by k_ne)) (kq _ n1dg (by k_ne) (by k_ne) (by k_ne) (by k_ne)) (kq _ n1hp (by k_ne) (by k_ne) (by k_ne) (by k_ne)) hC.mdh hO.o1 hO.o2 hO.o3 hO.o4 hO.o5 hO.o6 hO.o7 hO.o8 hO.o9 hO.o10 hO.o11 hC.hU hC.nd hC.hi hC.lo hOk.dk (ch (by decide +kernel) y4) (ch (by decide +kernel) y2) (ch (by decide +kernel) y5) (ch (by decide +kernel) y3) hOk.top (ch (by decide +kernel) y6) (ch (by decide +kernel) y7) (ch (by decide +kernel) y8) (ch (by decide +kernel) y9) gdk geH hC.dkh hnb5 (by omega) (by omega) (by omega) (by omega) (by omega) (fun _ => ⟨hT1, g0, dg0, fs', rfl, hfs', mg0, zg1, zg2, zg5, zg4, zg3, fun r hr => news_apart N13 mg0 (hC.hU r hr).dic inst_ne_dict⟩) (fun hb => absurd (by assumption : 0 < r6) (of_decide_eq_false hb)) (fun j hj hc => hOk.v0 j (by omega) hc) hC.mup hC.hp (by omega) ?hretT
        case hretT => exact fun m' h' tk F' => hret m' h' tk F'
  · refine Stop.on ?_
    rename Fr h₀ _ _ _ => FK
    rename News h₀ _ _ _ => NK
    have FT := fr_norm (fr_norm (fr_norm (fr_norm (fr_norm FK (Str.ofString "ground") (v := none) (by with_unfolding_all rfl)) (Str.ofString "broom") (v := some (.ref lb)) (by with_unfolding_all rfl)) (Str.ofString "upvals") (v := some (.ref up)) (by with_unfolding_all rfl)) (Str.ofString "thread") (v := some (.ref t)) (by with_unfolding_all rfl)) (Str.ofString "is_begun") (v := some (.bool (decide (0 < r6)))) (by with_unfolding_all rfl)
    refine' law_tail (bg := decide (0 < r6)) (gv := none) (led := (lb, W.listOf [.ref Db, .int (t1 + 1) tk6].toArray 0) :: rest) (lb := lb) (Db := Db) (t := t) (d := d) (st := st) (fr := fr) (ou := ou) (up := up) (gl := gl) (dg := dg) (hp := hp) (dh := dh) (wsb := wsb) (ns := ns.take 30) (es := es) (eg := es') (eh := eh) (ul := []) (vs := List.replicate 20 Value.none) (fs := []) (ps := []) (T := 0) KX9 T' B FT NK (.head _) (.tail _ mD) hIb h30 (by omega) (by omega) (.tail _ mt) (.tail _ md) (.tail _ mst) (.tail _ mfr) (.tail _ mou) (.tail _ mgl) (.tail _ mdg) (.tail _ mhp) (.tail _ mdh) hO.o1 hO.o2 hO.o3 hO.o4 hO.o5 hO.o6 hO.o7 hO.o8 hO.o9 hO.o10 hO.o11 (List.forall_mem_nil _) List.nodup_nil (List.forall_mem_nil _) (List.forall_mem_nil _) hk5 y4 y2 y5 y3 y1 y6 y7 y8 y9 gdk geH hhk hh2 (by decide) (by decide) (by decide) (Int.le_refl 0) (by decide) (fun hb => absurd (of_decide_eq_true hb) (by assumption)) (fun _ => ⟨rfl, rfl, rfl⟩) (fun j hj _ => by rw [List.getElem?_replicate, if_pos (by simpa using hj)]) (.tail _ mup) (List.forall_mem_nil _) (by decide) ?hretN
    case hretN => exact fun m' h' tk F' => hret m' h' tk F'
local macro_rules | `(tactic| k_qdec) => `(tactic| k_extra "M qdec")
theorem lines_qdec : True := by
  k_with "M qdec" => (rw [PySem.W.Fast.te17448422675489707002]; kernel_rfl)
  k_with "M qdec" => (rw [PySem.W.Fast.te2458874890965802552]; kernel_rfl)
  trivial
theorem law_holds : PySem.Challenge.rw_rh0170_01.Holds := by
  refine hd2 ?_
  k_go0
  all_goals (try k_fold)
  refine' law_body (A₀ := callerA) (X := ?X) (T' := ?T) (B := ?B) (hA0 := rfl) (hL := ?hL) (hI := ?hI) (hn := ?hn) (F := ?F) (N := ?N) (hE := ?hE) (hret := ?hret)
  case X => assumption
  case T => assumption
  case B => assumption
  case hL => assumption
  case hI => assumption
  case hn => omega
  case F => assumption
  case N => assumption
  case hE => passes_own
  intro m' h' tk' F'
  dsimp only
  k_steps
  all_goals w_report
end walk
end Mine
theorem PySem.Challenge.cw_rh0170_01_holds : PySem.Challenge.rw_rh0170_01.Holds :=
  Mine.law_holds
