import PyProof.Rows.All
import Wide.All
import OpenK.AllK
import Wide.FinOn
import Lean
import PySem.Challenge.RW_pc0003_01
open PySem PySem.W PyProof.Rows
set_option Elab.async false
set_option compiler.extract_closed false
set_option genInjectivity false
set_option genSizeOf false
set_option genSizeOfSpec false
namespace Mine
structure Is3 (p : Arguments) (b : FuncBody) (s : Scope) : Type
noncomputable def dfParams : Stmt → Arguments
  | .FunctionDef _ p _ _ _ _ _ _ _ _ => p
  | _ => default
noncomputable def dfBody : Stmt → FuncBody
  | .FunctionDef _ _ b _ _ _ _ _ _ _ => .stmts b
  | _ => default
noncomputable def dfScope : Stmt → Scope
  | .FunctionDef _ _ _ _ _ _ s _ _ _ => s
  | _ => default
noncomputable def tl1 : List Stmt → List Stmt
  | _ :: l => l
  | [] => []
noncomputable def hd1 : List Stmt → Stmt
  | a :: _ => a
  | [] => default
noncomputable def cBody : Stmt → List Stmt
  | .ClassDef _ _ _ b .. => b
  | _ => []
noncomputable def t0 : List Stmt := PySem.Challenge.pw_pc0003_01.main.body
noncomputable def d0 : Stmt := hd1 t0
noncomputable def t1 : List Stmt := tl1 t0
noncomputable def d1 : Stmt := hd1 t1
noncomputable def t2 : List Stmt := tl1 t1
noncomputable def d2 : Stmt := hd1 t2
noncomputable def t3 : List Stmt := tl1 t2
noncomputable def d3 : Stmt := hd1 t3
noncomputable def t4 : List Stmt := tl1 t3
noncomputable def d4 : Stmt := hd1 t4
noncomputable def t5 : List Stmt := tl1 t4
noncomputable def d5 : Stmt := hd1 t5
noncomputable def t6 : List Stmt := tl1 t5
noncomputable def d6 : Stmt := hd1 t6
noncomputable def t7 : List Stmt := tl1 t6
noncomputable def d7 : Stmt := hd1 t7
noncomputable def t8 : List Stmt := tl1 t7
noncomputable def d8 : Stmt := hd1 t8
noncomputable def t9 : List Stmt := tl1 t8
noncomputable def d9 : Stmt := hd1 t9
noncomputable def t10 : List Stmt := tl1 t9
noncomputable def d10 : Stmt := hd1 t10
noncomputable def t11 : List Stmt := tl1 t10
noncomputable def d11 : Stmt := hd1 t11
noncomputable def t12 : List Stmt := tl1 t11
noncomputable def d12 : Stmt := hd1 t12
noncomputable def t13 : List Stmt := tl1 t12
noncomputable def d13 : Stmt := hd1 t13
noncomputable def t14 : List Stmt := tl1 t13
noncomputable def d14 : Stmt := hd1 t14
noncomputable def t15 : List Stmt := tl1 t14
noncomputable def d15 : Stmt := hd1 t15
noncomputable def t16 : List Stmt := tl1 t15
noncomputable def d16 : Stmt := hd1 t16
noncomputable def t17 : List Stmt := tl1 t16
noncomputable def d17 : Stmt := hd1 t17
noncomputable def t18 : List Stmt := tl1 t17
noncomputable def d18 : Stmt := hd1 t18
noncomputable def t19 : List Stmt := tl1 t18
noncomputable def d19 : Stmt := hd1 t19
noncomputable def t20 : List Stmt := tl1 t19
noncomputable def d20 : Stmt := hd1 t20
noncomputable def t21 : List Stmt := tl1 t20
noncomputable def d21 : Stmt := hd1 t21
noncomputable def t22 : List Stmt := tl1 t21
noncomputable def d22 : Stmt := hd1 t22
noncomputable def t23 : List Stmt := tl1 t22
noncomputable def d23 : Stmt := hd1 t23
noncomputable def t24 : List Stmt := tl1 t23
noncomputable def d24 : Stmt := hd1 t24
noncomputable def d1_0 : Stmt := hd1 (cBody d1)
noncomputable def d3_0 : Stmt := hd1 (cBody d3)
set_option maxRecDepth 100000 in
set_option maxHeartbeats 8000000 in
noncomputable def K : Params → Frag := by
  refine (?f : Is3 (dfParams d1_0) (dfBody d1_0) (dfScope d1_0) → Is3 (dfParams d3_0) (dfBody d3_0) (dfScope d3_0) → Is3 (dfParams d4) (dfBody d4) (dfScope d4) → Is3 (dfParams d5) (dfBody d5) (dfScope d5) → Is3 (dfParams d6) (dfBody d6) (dfScope d6) → Is3 (dfParams d7) (dfBody d7) (dfScope d7) → Is3 (dfParams d8) (dfBody d8) (dfScope d8) → Is3 (dfParams d9) (dfBody d9) (dfScope d9) → Is3 (dfParams d10) (dfBody d10) (dfScope d10) → Is3 (dfParams d11) (dfBody d11) (dfScope d11) → Is3 (dfParams d12) (dfBody d12) (dfScope d12) → Is3 (dfParams d13) (dfBody d13) (dfScope d13) → Is3 (dfParams d14) (dfBody d14) (dfScope d14) → Is3 (dfParams d15) (dfBody d15) (dfScope d15) → Is3 (dfParams d16) (dfBody d16) (dfScope d16) → Is3 (dfParams d18) (dfBody d18) (dfScope d18) → Is3 (dfParams d19) (dfBody d19) (dfScope d19) → Is3 (dfParams d20) (dfBody d20) (dfScope d20) → Is3 (dfParams d21) (dfBody d21) (dfScope d21) → Is3 (dfParams d22) (dfBody d22) (dfScope d22) → Is3 (dfParams d23) (dfBody d23) (dfScope d23) → Is3 (dfParams d24) (dfBody d24) (dfScope d24) → Params → Frag) Is3.mk Is3.mk Is3.mk Is3.mk Is3.mk Is3.mk Is3.mk Is3.mk Is3.mk Is3.mk Is3.mk Is3.mk Is3.mk Is3.mk Is3.mk Is3.mk Is3.mk Is3.mk Is3.mk Is3.mk Is3.mk Is3.mk
  intro h1_0 h3_0 h4 h5 h6 h7 h8 h9 h10 h11 h12 h13 h14 h15 h16 h18 h19 h20 h21 h22 h23 h24
  dsimp only [dfParams, dfBody, dfScope, tl1, hd1, cBody, PySem.Challenge.pw_pc0003_01, t0, d0, t1, d1, t2, d2, t3, d3, t4, d4, t5, d5, t6, d6, t7, d7, t8, d8, t9, d9, t10, d10, t11, d11, t12, d12, t13, d13, t14, d14, t15, d15, t16, d16, t17, d17, t18, d18, t19, d19, t20, d20, t21, d21, t22, d22, t23, d23, t24, d24, d1_0, d3_0] at h1_0 h3_0 h4 h5 h6 h7 h8 h9 h10 h11 h12 h13 h14 h15 h16 h18 h19 h20 h21 h22 h23 h24
  refine (?g : (p1_0 : Arguments) → (b1_0 : FuncBody) → (s1_0 : Scope) → Is3 p1_0 b1_0 s1_0 → (p3_0 : Arguments) → (b3_0 : FuncBody) → (s3_0 : Scope) → Is3 p3_0 b3_0 s3_0 → (p4 : Arguments) → (b4 : FuncBody) → (s4 : Scope) → Is3 p4 b4 s4 → (p5 : Arguments) → (b5 : FuncBody) → (s5 : Scope) → Is3 p5 b5 s5 → (p6 : Arguments) → (b6 : FuncBody) → (s6 : Scope) → Is3 p6 b6 s6 → (p7 : Arguments) → (b7 : FuncBody) → (s7 : Scope) → Is3 p7 b7 s7 → (p8 : Arguments) → (b8 : FuncBody) → (s8 : Scope) → Is3 p8 b8 s8 → (p9 : Arguments) → (b9 : FuncBody) → (s9 : Scope) → Is3 p9 b9 s9 → (p10 : Arguments) → (b10 : FuncBody) → (s10 : Scope) → Is3 p10 b10 s10 → (p11 : Arguments) → (b11 : FuncBody) → (s11 : Scope) → Is3 p11 b11 s11 → (p12 : Arguments) → (b12 : FuncBody) → (s12 : Scope) → Is3 p12 b12 s12 → (p13 : Arguments) → (b13 : FuncBody) → (s13 : Scope) → Is3 p13 b13 s13 → (p14 : Arguments) → (b14 : FuncBody) → (s14 : Scope) → Is3 p14 b14 s14 → (p15 : Arguments) → (b15 : FuncBody) → (s15 : Scope) → Is3 p15 b15 s15 → (p16 : Arguments) → (b16 : FuncBody) → (s16 : Scope) → Is3 p16 b16 s16 → (p18 : Arguments) → (b18 : FuncBody) → (s18 : Scope) → Is3 p18 b18 s18 → (p19 : Arguments) → (b19 : FuncBody) → (s19 : Scope) → Is3 p19 b19 s19 → (p20 : Arguments) → (b20 : FuncBody) → (s20 : Scope) → Is3 p20 b20 s20 → (p21 : Arguments) → (b21 : FuncBody) → (s21 : Scope) → Is3 p21 b21 s21 → (p22 : Arguments) → (b22 : FuncBody) → (s22 : Scope) → Is3 p22 b22 s22 → (p23 : Arguments) → (b23 : FuncBody) → (s23 : Scope) → Is3 p23 b23 s23 → (p24 : Arguments) → (b24 : FuncBody) → (s24 : Scope) → Is3 p24 b24 s24 → Params → Frag) _ _ _ h1_0 _ _ _ h3_0 _ _ _ h4 _ _ _ h5 _ _ _ h6 _ _ _ h7 _ _ _ h8 _ _ _ h9 _ _ _ h10 _ _ _ h11 _ _ _ h12 _ _ _ h13 _ _ _ h14 _ _ _ h15 _ _ _ h16 _ _ _ h18 _ _ _ h19 _ _ _ h20 _ _ _ h21 _ _ _ h22 _ _ _ h23 _ _ _ h24
  intro p1_0 b1_0 s1_0 _ p3_0 b3_0 s3_0 _ p4 b4 s4 _ p5 b5 s5 _ p6 b6 s6 _ p7 b7 s7 _ p8 b8 s8 _ p9 b9 s9 _ p10 b10 s10 _ p11 b11 s11 _ p12 b12 s12 _ p13 b13 s13 _ p14 b14 s14 _ p15 b15 s15 _ p16 b16 s16 _ p18 b18 s18 _ p19 b19 s19 _ p20 b20 s20 _ p21 b21 s21 _ p22 b22 s22 _ p23 b23 s23 _ p24 b24 s24 _
  exact fun P => (
    ((nat_lit 2 : Nat), ⟨.none, (@none Nat), (.dict #[⟨(PySem.PyData.keyHash P (.ofString "type.__subclasses__.Exception.0")), (.str (.ofString "type.__subclasses__.Exception.0") (219 : Nat)), (.int 34 (0 : Nat))⟩, ⟨(PySem.PyData.keyHash P (.ofString "type.__subclasses__.Exception.n")), (.str (.ofString "type.__subclasses__.Exception.n") (220 : Nat)), (.int 1 (0 : Nat))⟩] (2 : Nat)), #[]⟩) ::
    ((nat_lit 3 : Nat), ⟨(.type "dict"), (@none Nat), (.dict #[⟨(PySem.PyData.keyHash P (.ofString "__name__")), (.str (.ofString "__name__") (165 : Nat)), (.str (.ofString "law_pc0003_01") (383 : Nat))⟩, ⟨(PySem.PyData.keyHash P (.ofString "__doc__")), (.str (.ofString "__doc__") (166 : Nat)), .none⟩, ⟨(PySem.PyData.keyHash P (.ofString "__package__")), (.str (.ofString "__package__") (167 : Nat)), .none⟩, ⟨(PySem.PyData.keyHash P (.ofString "__loader__")), (.str (.ofString "__loader__") (168 : Nat)), (.builtin "__main__.__loader__#opaque")⟩, ⟨(PySem.PyData.keyHash P (.ofString "__spec__")), (.str (.ofString "__spec__") (169 : Nat)), .none⟩, ⟨(PySem.PyData.keyHash P (.ofString "__annotations__")), (.str (.ofString "__annotations__") (170 : Nat)), (.ref (6 : Nat))⟩, ⟨(PySem.PyData.keyHash P (.ofString "__builtins__")), (.str (.ofString "__builtins__") (171 : Nat)), (.ref (4 : Nat))⟩, ⟨(PySem.PyData.keyHash P (.ofString "__file__")), (.str (.ofString "__file__") (173 : Nat)), (.str (.ofString "/claim/cut.py") (172 : Nat))⟩, ⟨(PySem.PyData.keyHash P (.ofString "__cached__")), (.str (.ofString "__cached__") (174 : Nat)), .none⟩, ⟨(PySem.PyData.keyHash P (.ofString "BasicError")), (.str (.ofString "BasicError") (222 : Nat)), (.ref (34 : Nat))⟩, ⟨(PySem.PyData.keyHash P (.ofString "Flat")), (.str (.ofString "Flat") (257 : Nat)), (.ref (54 : Nat))⟩, ⟨(PySem.PyData.keyHash P (.ofString "put_row_of")), (.str (.ofString "put_row_of") (266 : Nat)), (.ref (65 : Nat))⟩, ⟨(PySem.PyData.keyHash P (.ofString "put_if")), (.str (.ofString "put_if") (277 : Nat)), (.ref (72 : Nat))⟩, ⟨(PySem.PyData.keyHash P (.ofString "put_all")), (.str (.ofString "put_all") (287 : Nat)), (.ref (79 : Nat))⟩, ⟨(PySem.PyData.keyHash P (.ofString "gather")), (.str (.ofString "gather") (303 : Nat)), (.ref (86 : Nat))⟩, ⟨(PySem.PyData.keyHash P (.ofString "join_rows")), (.str (.ofString "join_rows") (313 : Nat)), (.ref (93 : Nat))⟩, ⟨(PySem.PyData.keyHash P (.ofString "end_loops")), (.str (.ofString "end_loops") (324 : Nat)), (.ref (100 : Nat))⟩, ⟨(PySem.PyData.keyHash P (.ofString "flatten")), (.str (.ofString "flatten") (334 : Nat)), (.ref (107 : Nat))⟩, ⟨(PySem.PyData.keyHash P (.ofString "place_of")), (.str (.ofString "place_of") (342 : Nat)), (.ref (114 : Nat))⟩, ⟨(PySem.PyData.keyHash P (.ofString "line_of")), (.str (.ofString "line_of") (350 : Nat)), (.ref (121 : Nat))⟩, ⟨(PySem.PyData.keyHash P (.ofString "next_line")), (.str (.ofString "next_line") (359 : Nat)), (.ref (128 : Nat))⟩, ⟨(PySem.PyData.keyHash P (.ofString "end_of_while")), (.str (.ofString "end_of_while") (367 : Nat)), (.ref (135 : Nat))⟩, ⟨(PySem.PyData.keyHash P (.ofString "next_of_for")), (.str (.ofString "next_of_for") (375 : Nat)), (.ref (142 : Nat))⟩, ⟨(PySem.PyData.keyHash P (.ofString "line_numbers")), (.str (.ofString "line_numbers") (382 : Nat)), (.ref (149 : Nat))⟩, ⟨(PySem.PyData.keyHash P (.ofString "_law_statements")), (.str (.ofString "_law_statements") (397 : Nat)), (.ref (156 : Nat))⟩, ⟨(PySem.PyData.keyHash P (.ofString "_law_simple")), (.str (.ofString "_law_simple") (406 : Nat)), (.ref (163 : Nat))⟩, ⟨(PySem.PyData.keyHash P (.ofString "_law_come_to")), (.str (.ofString "_law_come_to") (416 : Nat)), (.ref (170 : Nat))⟩, ⟨(PySem.PyData.keyHash P (.ofString "_law_gone")), (.str (.ofString "_law_gone") (429 : Nat)), (.ref (177 : Nat))⟩, ⟨(PySem.PyData.keyHash P (.ofString "_law_belongs")), (.str (.ofString "_law_belongs") (435 : Nat)), (.ref (182 : Nat))⟩, ⟨(PySem.PyData.keyHash P (.ofString "_law_told")), (.str (.ofString "_law_told") (443 : Nat)), (.ref (189 : Nat))⟩, ⟨(PySem.PyData.keyHash P (.ofString "law")), (.str (.ofString "law") (449 : Nat)), (.ref (194 : Nat))⟩] (31 : Nat)), #[]⟩) ::
    ((nat_lit 15 : Nat), ⟨(.type "tuple"), (@none Nat), (.seq #[(.type "Exception")] (0 : Nat)), #[]⟩) ::
    ((nat_lit 18 : Nat), ⟨(.type "cell"), (@none Nat), (.cell (some (.ref (34 : Nat)))), #[]⟩) ::
    ((nat_lit 23 : Nat), ⟨(.type "tuple"), (@none Nat), (.seq #[(.str (.ofString "") (201 : Nat))] (0 : Nat)), #[]⟩) ::
    ((nat_lit 24 : Nat), ⟨(.type "tuple"), (@none Nat), (.seq #[(.ref (18 : Nat))] (0 : Nat)), #[]⟩) ::
    ((nat_lit 25 : Nat), ⟨(.type "tuple"), (@none Nat), (.seq #[(.str (.ofString "__class__") (205 : Nat))] (0 : Nat)), #[]⟩) ::
    ((nat_lit 27 : Nat), ⟨(.type "tuple"), (@none Nat), (.seq #[(.str (.ofString "self") (206 : Nat)), (.str (.ofString "code") (207 : Nat)), (.str (.ofString "told") (208 : Nat))] (0 : Nat)), #[]⟩) ::
    ((nat_lit 28 : Nat), ⟨(.type "tuple"), (@none Nat), (.seq #[] (0 : Nat)), #[]⟩) ::
    ((nat_lit 30 : Nat), ⟨(.type "code"), (@none Nat), (.fields #[(.str (.ofString "__init__") (202 : Nat)), (.str (.ofString "BasicError.__init__") (203 : Nat)), (.str (.ofString "/claim/cut.py") (204 : Nat)), (.int 4 (0 : Nat)), (.int 3 (0 : Nat)), (.int 0 (0 : Nat)), (.int 0 (0 : Nat)), (.int 3 (0 : Nat)), (.ref (25 : Nat)), (.bool true), (.int 181 (0 : Nat)), (.ref (26 : Nat)), .none, (.ref (27 : Nat)), (.ref (28 : Nat)), (.ref (29 : Nat)), (.int 209 (0 : Nat)), (.int 4 (0 : Nat)), (.str (.ofString "/claim/cut.py") (210 : Nat))]), #[]⟩) ::
    ((nat_lit 31 : Nat), ⟨(.type "function"), (@none Nat), (.func ⟨(.ofString "__init__"), (.ofString "BasicError.__init__"), p1_0, b1_0, s1_0, (3 : Nat), ([((.ofString "__class__"), (18 : Nat))] : List (Str × Nat)), (.ref (23 : Nat)), .none, .none, (.str (.ofString "basicplus.values") (187 : Nat)), (@none Nat), (.ref (30 : Nat)), (.ref (24 : Nat)), (0 : Nat)⟩), #[]⟩) ::
    ((nat_lit 32 : Nat), ⟨(.type "tuple"), (@none Nat), (.seq #[(.str (.ofString "code") (212 : Nat)), (.str (.ofString "told") (213 : Nat))] (0 : Nat)), #[]⟩) ::
    ((nat_lit 33 : Nat), ⟨(.type "dict"), (@none Nat), (.dict #[⟨(PySem.PyData.keyHash P (.ofString "__module__")), (.str (.ofString "__module__") (196 : Nat)), (.str (.ofString "basicplus.values") (187 : Nat))⟩, ⟨(PySem.PyData.keyHash P (.ofString "__firstlineno__")), (.str (.ofString "__firstlineno__") (200 : Nat)), (.int 2 (199 : Nat))⟩, ⟨(PySem.PyData.keyHash P (.ofString "__init__")), (.str (.ofString "__init__") (211 : Nat)), (.ref (31 : Nat))⟩, ⟨(PySem.PyData.keyHash P (.ofString "__static_attributes__")), (.str (.ofString "__static_attributes__") (214 : Nat)), (.ref (32 : Nat))⟩, ⟨(PySem.PyData.keyHash P (.ofString "__weakref__")), (.str (.ofString "__weakref__") (217 : Nat)), (.ref (35 : Nat))⟩, ⟨(PySem.PyData.keyHash P (.ofString "__doc__")), (.str (.ofString "__doc__") (218 : Nat)), .none⟩] (4 : Nat)), #[]⟩) ::
    ((nat_lit 34 : Nat), ⟨(.type "type"), (@none Nat), (.cls ⟨(.ofString "BasicError"), [(.type "Exception")], [(.ref (34 : Nat)), (.type "Exception"), (.type "BaseException"), (.type "object")], (33 : Nat), (.ofString "BasicError"), true, [], [], false, none, false⟩), #[(some (.ref (15 : Nat))), none, (some (.str (.ofString "BasicError") (189 : Nat))), (some (.str (.ofString "BasicError") (197 : Nat))), (some (.builtin "Exception.__new__")), (some (.bool true))]⟩) ::
    ((nat_lit 35 : Nat), ⟨(.type "getset_descriptor"), (@none Nat), (.fields #[(.str (.ofString "__weakref__") (216 : Nat)), (.ref (34 : Nat)), (.builtin "ExceptionGroup.__weakref__"), .none]), #[]⟩) ::
    ((nat_lit 45 : Nat), ⟨(.type "tuple"), (@none Nat), (.seq #[] (0 : Nat)), #[]⟩) ::
    ((nat_lit 47 : Nat), ⟨(.type "tuple"), (@none Nat), (.seq #[(.str (.ofString "self") (240 : Nat))] (0 : Nat)), #[]⟩) ::
    ((nat_lit 48 : Nat), ⟨(.type "tuple"), (@none Nat), (.seq #[] (0 : Nat)), #[]⟩) ::
    ((nat_lit 50 : Nat), ⟨(.type "code"), (@none Nat), (.fields #[(.str (.ofString "__init__") (237 : Nat)), (.str (.ofString "Flat.__init__") (238 : Nat)), (.str (.ofString "/claim/cut.py") (239 : Nat)), (.int 11 (0 : Nat)), (.int 1 (0 : Nat)), (.int 0 (0 : Nat)), (.int 0 (0 : Nat)), (.int 3 (0 : Nat)), (.ref (45 : Nat)), (.bool true), (.int 181 (0 : Nat)), (.ref (46 : Nat)), .none, (.ref (47 : Nat)), (.ref (48 : Nat)), (.ref (49 : Nat)), (.int 241 (0 : Nat)), (.int 11 (0 : Nat)), (.str (.ofString "/claim/cut.py") (242 : Nat))]), #[]⟩) ::
    ((nat_lit 51 : Nat), ⟨(.type "function"), (@none Nat), (.func ⟨(.ofString "__init__"), (.ofString "Flat.__init__"), p3_0, b3_0, s3_0, (3 : Nat), ([] : List (Str × Nat)), .none, .none, .none, (.str (.ofString "basicplus.flatten") (223 : Nat)), (@none Nat), (.ref (50 : Nat)), .none, (0 : Nat)⟩), #[]⟩) ::
    ((nat_lit 52 : Nat), ⟨(.type "tuple"), (@none Nat), (.seq #[(.str (.ofString "data") (244 : Nat)), (.str (.ofString "fns") (245 : Nat)), (.str (.ofString "loops") (246 : Nat)), (.str (.ofString "pairs") (247 : Nat)), (.str (.ofString "places") (248 : Nat)), (.str (.ofString "rows") (249 : Nat))] (0 : Nat)), #[]⟩) ::
    ((nat_lit 53 : Nat), ⟨(.type "dict"), (@none Nat), (.dict #[⟨(PySem.PyData.keyHash P (.ofString "__module__")), (.str (.ofString "__module__") (232 : Nat)), (.str (.ofString "basicplus.flatten") (223 : Nat))⟩, ⟨(PySem.PyData.keyHash P (.ofString "__firstlineno__")), (.str (.ofString "__firstlineno__") (236 : Nat)), (.int 9 (235 : Nat))⟩, ⟨(PySem.PyData.keyHash P (.ofString "__init__")), (.str (.ofString "__init__") (243 : Nat)), (.ref (51 : Nat))⟩, ⟨(PySem.PyData.keyHash P (.ofString "__static_attributes__")), (.str (.ofString "__static_attributes__") (250 : Nat)), (.ref (52 : Nat))⟩, ⟨(PySem.PyData.keyHash P (.ofString "__dict__")), (.str (.ofString "__dict__") (252 : Nat)), (.ref (55 : Nat))⟩, ⟨(PySem.PyData.keyHash P (.ofString "__weakref__")), (.str (.ofString "__weakref__") (254 : Nat)), (.ref (56 : Nat))⟩, ⟨(PySem.PyData.keyHash P (.ofString "__doc__")), (.str (.ofString "__doc__") (255 : Nat)), .none⟩] (4 : Nat)), #[]⟩) ::
    ((nat_lit 54 : Nat), ⟨(.type "type"), (@none Nat), (.cls ⟨(.ofString "Flat"), [(.type "object")], [(.ref (54 : Nat)), (.type "object")], (53 : Nat), (.ofString "Flat"), true, [], [], false, none, false⟩), #[none, none, (some (.str (.ofString "Flat") (225 : Nat))), (some (.str (.ofString "Flat") (233 : Nat))), (some (.builtin "object.__new__")), (some (.bool true))]⟩) ::
    ((nat_lit 55 : Nat), ⟨(.type "getset_descriptor"), (@none Nat), (.fields #[(.str (.ofString "__dict__") (251 : Nat)), (.ref (54 : Nat)), (.builtin "function.__dict__"), (.builtin "function.__dict__#set")]), #[]⟩) ::
    ((nat_lit 56 : Nat), ⟨(.type "getset_descriptor"), (@none Nat), (.fields #[(.str (.ofString "__weakref__") (253 : Nat)), (.ref (54 : Nat)), (.builtin "ExceptionGroup.__weakref__"), .none]), #[]⟩) ::
    ((nat_lit 59 : Nat), ⟨(.type "tuple"), (@none Nat), (.seq #[] (0 : Nat)), #[]⟩) ::
    ((nat_lit 61 : Nat), ⟨(.type "tuple"), (@none Nat), (.seq #[(.str (.ofString "flat") (261 : Nat)), (.str (.ofString "line") (262 : Nat)), (.str (.ofString "statement") (263 : Nat))] (0 : Nat)), #[]⟩) ::
    ((nat_lit 62 : Nat), ⟨(.type "tuple"), (@none Nat), (.seq #[] (0 : Nat)), #[]⟩) ::
    ((nat_lit 64 : Nat), ⟨(.type "code"), (@none Nat), (.fields #[(.str (.ofString "put_row_of") (258 : Nat)), (.str (.ofString "put_row_of") (259 : Nat)), (.str (.ofString "/claim/cut.py") (260 : Nat)), (.int 18 (0 : Nat)), (.int 3 (0 : Nat)), (.int 0 (0 : Nat)), (.int 0 (0 : Nat)), (.int 3 (0 : Nat)), (.ref (59 : Nat)), (.bool true), (.int 181 (0 : Nat)), (.ref (60 : Nat)), .none, (.ref (61 : Nat)), (.ref (62 : Nat)), (.ref (63 : Nat)), (.int 264 (0 : Nat)), (.int 18 (0 : Nat)), (.str (.ofString "/claim/cut.py") (265 : Nat))]), #[]⟩) ::
    ((nat_lit 65 : Nat), ⟨(.type "function"), (@none Nat), (.func ⟨(.ofString "put_row_of"), (.ofString "put_row_of"), p4, b4, s4, (3 : Nat), ([] : List (Str × Nat)), .none, .none, .none, (.str (.ofString "basicplus.flatten") (223 : Nat)), (@none Nat), (.ref (64 : Nat)), .none, (0 : Nat)⟩), #[]⟩) ::
    ((nat_lit 66 : Nat), ⟨(.type "tuple"), (@none Nat), (.seq #[] (0 : Nat)), #[]⟩) ::
    ((nat_lit 68 : Nat), ⟨(.type "tuple"), (@none Nat), (.seq #[(.str (.ofString "flat") (270 : Nat)), (.str (.ofString "line") (271 : Nat)), (.str (.ofString "statement") (272 : Nat)), (.str (.ofString "test") (273 : Nat)), (.str (.ofString "skip") (274 : Nat))] (0 : Nat)), #[]⟩) ::
    ((nat_lit 69 : Nat), ⟨(.type "tuple"), (@none Nat), (.seq #[] (0 : Nat)), #[]⟩) ::
    ((nat_lit 71 : Nat), ⟨(.type "code"), (@none Nat), (.fields #[(.str (.ofString "put_if") (267 : Nat)), (.str (.ofString "put_if") (268 : Nat)), (.str (.ofString "/claim/cut.py") (269 : Nat)), (.int 21 (0 : Nat)), (.int 3 (0 : Nat)), (.int 0 (0 : Nat)), (.int 0 (0 : Nat)), (.int 3 (0 : Nat)), (.ref (66 : Nat)), (.bool true), (.int 181 (0 : Nat)), (.ref (67 : Nat)), .none, (.ref (68 : Nat)), (.ref (69 : Nat)), (.ref (70 : Nat)), (.int 275 (0 : Nat)), (.int 21 (0 : Nat)), (.str (.ofString "/claim/cut.py") (276 : Nat))]), #[]⟩) ::
    ((nat_lit 72 : Nat), ⟨(.type "function"), (@none Nat), (.func ⟨(.ofString "put_if"), (.ofString "put_if"), p5, b5, s5, (3 : Nat), ([] : List (Str × Nat)), .none, .none, .none, (.str (.ofString "basicplus.flatten") (223 : Nat)), (@none Nat), (.ref (71 : Nat)), .none, (0 : Nat)⟩), #[]⟩) ::
    ((nat_lit 73 : Nat), ⟨(.type "tuple"), (@none Nat), (.seq #[] (0 : Nat)), #[]⟩) ::
    ((nat_lit 75 : Nat), ⟨(.type "tuple"), (@none Nat), (.seq #[(.str (.ofString "flat") (281 : Nat)), (.str (.ofString "line") (282 : Nat)), (.str (.ofString "statements") (283 : Nat)), (.str (.ofString "statement") (284 : Nat))] (0 : Nat)), #[]⟩) ::
    ((nat_lit 76 : Nat), ⟨(.type "tuple"), (@none Nat), (.seq #[] (0 : Nat)), #[]⟩) ::
    ((nat_lit 78 : Nat), ⟨(.type "code"), (@none Nat), (.fields #[(.str (.ofString "put_all") (278 : Nat)), (.str (.ofString "put_all") (279 : Nat)), (.str (.ofString "/claim/cut.py") (280 : Nat)), (.int 31 (0 : Nat)), (.int 3 (0 : Nat)), (.int 0 (0 : Nat)), (.int 0 (0 : Nat)), (.int 3 (0 : Nat)), (.ref (73 : Nat)), (.bool true), (.int 181 (0 : Nat)), (.ref (74 : Nat)), .none, (.ref (75 : Nat)), (.ref (76 : Nat)), (.ref (77 : Nat)), (.int 285 (0 : Nat)), (.int 31 (0 : Nat)), (.str (.ofString "/claim/cut.py") (286 : Nat))]), #[]⟩) ::
    ((nat_lit 79 : Nat), ⟨(.type "function"), (@none Nat), (.func ⟨(.ofString "put_all"), (.ofString "put_all"), p6, b6, s6, (3 : Nat), ([] : List (Str × Nat)), .none, .none, .none, (.str (.ofString "basicplus.flatten") (223 : Nat)), (@none Nat), (.ref (78 : Nat)), .none, (0 : Nat)⟩), #[]⟩) ::
    ((nat_lit 80 : Nat), ⟨(.type "tuple"), (@none Nat), (.seq #[] (0 : Nat)), #[]⟩) ::
    ((nat_lit 82 : Nat), ⟨(.type "tuple"), (@none Nat), (.seq #[(.str (.ofString "flat") (291 : Nat)), (.str (.ofString "whiles") (292 : Nat)), (.str (.ofString "fors") (293 : Nat)), (.str (.ofString "heads") (294 : Nat)), (.str (.ofString "at") (295 : Nat)), (.str (.ofString "pair") (296 : Nat)), (.str (.ofString "line") (297 : Nat)), (.str (.ofString "statement") (298 : Nat)), (.str (.ofString "word") (299 : Nat)), (.str (.ofString "text") (300 : Nat))] (0 : Nat)), #[]⟩) ::
    ((nat_lit 83 : Nat), ⟨(.type "tuple"), (@none Nat), (.seq #[] (0 : Nat)), #[]⟩) ::
    ((nat_lit 85 : Nat), ⟨(.type "code"), (@none Nat), (.fields #[(.str (.ofString "gather") (288 : Nat)), (.str (.ofString "gather") (289 : Nat)), (.str (.ofString "/claim/cut.py") (290 : Nat)), (.int 37 (0 : Nat)), (.int 1 (0 : Nat)), (.int 0 (0 : Nat)), (.int 0 (0 : Nat)), (.int 3 (0 : Nat)), (.ref (80 : Nat)), (.bool true), (.int 181 (0 : Nat)), (.ref (81 : Nat)), .none, (.ref (82 : Nat)), (.ref (83 : Nat)), (.ref (84 : Nat)), (.int 301 (0 : Nat)), (.int 37 (0 : Nat)), (.str (.ofString "/claim/cut.py") (302 : Nat))]), #[]⟩) ::
    ((nat_lit 86 : Nat), ⟨(.type "function"), (@none Nat), (.func ⟨(.ofString "gather"), (.ofString "gather"), p7, b7, s7, (3 : Nat), ([] : List (Str × Nat)), .none, .none, .none, (.str (.ofString "basicplus.flatten") (223 : Nat)), (@none Nat), (.ref (85 : Nat)), .none, (0 : Nat)⟩), #[]⟩) ::
    ((nat_lit 87 : Nat), ⟨(.type "tuple"), (@none Nat), (.seq #[] (0 : Nat)), #[]⟩) ::
    ((nat_lit 89 : Nat), ⟨(.type "tuple"), (@none Nat), (.seq #[(.str (.ofString "flat") (307 : Nat)), (.str (.ofString "open_rows") (308 : Nat)), (.str (.ofString "at") (309 : Nat)), (.str (.ofString "begin") (310 : Nat))] (0 : Nat)), #[]⟩) ::
    ((nat_lit 90 : Nat), ⟨(.type "tuple"), (@none Nat), (.seq #[] (0 : Nat)), #[]⟩) ::
    ((nat_lit 92 : Nat), ⟨(.type "code"), (@none Nat), (.fields #[(.str (.ofString "join_rows") (304 : Nat)), (.str (.ofString "join_rows") (305 : Nat)), (.str (.ofString "/claim/cut.py") (306 : Nat)), (.int 59 (0 : Nat)), (.int 3 (0 : Nat)), (.int 0 (0 : Nat)), (.int 0 (0 : Nat)), (.int 3 (0 : Nat)), (.ref (87 : Nat)), (.bool true), (.int 181 (0 : Nat)), (.ref (88 : Nat)), .none, (.ref (89 : Nat)), (.ref (90 : Nat)), (.ref (91 : Nat)), (.int 311 (0 : Nat)), (.int 59 (0 : Nat)), (.str (.ofString "/claim/cut.py") (312 : Nat))]), #[]⟩) ::
    ((nat_lit 93 : Nat), ⟨(.type "function"), (@none Nat), (.func ⟨(.ofString "join_rows"), (.ofString "join_rows"), p8, b8, s8, (3 : Nat), ([] : List (Str × Nat)), .none, .none, .none, (.str (.ofString "basicplus.flatten") (223 : Nat)), (@none Nat), (.ref (92 : Nat)), .none, (0 : Nat)⟩), #[]⟩) ::
    ((nat_lit 94 : Nat), ⟨(.type "tuple"), (@none Nat), (.seq #[] (0 : Nat)), #[]⟩) ::
    ((nat_lit 96 : Nat), ⟨(.type "tuple"), (@none Nat), (.seq #[(.str (.ofString "flat") (317 : Nat)), (.str (.ofString "fors") (318 : Nat)), (.str (.ofString "at") (319 : Nat)), (.str (.ofString "many") (320 : Nat)), (.str (.ofString "which") (321 : Nat))] (0 : Nat)), #[]⟩) ::
    ((nat_lit 97 : Nat), ⟨(.type "tuple"), (@none Nat), (.seq #[] (0 : Nat)), #[]⟩) ::
    ((nat_lit 99 : Nat), ⟨(.type "code"), (@none Nat), (.fields #[(.str (.ofString "end_loops") (314 : Nat)), (.str (.ofString "end_loops") (315 : Nat)), (.str (.ofString "/claim/cut.py") (316 : Nat)), (.int 64 (0 : Nat)), (.int 4 (0 : Nat)), (.int 0 (0 : Nat)), (.int 0 (0 : Nat)), (.int 3 (0 : Nat)), (.ref (94 : Nat)), (.bool true), (.int 181 (0 : Nat)), (.ref (95 : Nat)), .none, (.ref (96 : Nat)), (.ref (97 : Nat)), (.ref (98 : Nat)), (.int 322 (0 : Nat)), (.int 64 (0 : Nat)), (.str (.ofString "/claim/cut.py") (323 : Nat))]), #[]⟩) ::
    ((nat_lit 100 : Nat), ⟨(.type "function"), (@none Nat), (.func ⟨(.ofString "end_loops"), (.ofString "end_loops"), p9, b9, s9, (3 : Nat), ([] : List (Str × Nat)), .none, .none, .none, (.str (.ofString "basicplus.flatten") (223 : Nat)), (@none Nat), (.ref (99 : Nat)), .none, (0 : Nat)⟩), #[]⟩) ::
    ((nat_lit 101 : Nat), ⟨(.type "tuple"), (@none Nat), (.seq #[] (0 : Nat)), #[]⟩) ::
    ((nat_lit 103 : Nat), ⟨(.type "tuple"), (@none Nat), (.seq #[(.str (.ofString "parsed") (328 : Nat)), (.str (.ofString "flat") (329 : Nat)), (.str (.ofString "line") (330 : Nat)), (.str (.ofString "statements") (331 : Nat))] (0 : Nat)), #[]⟩) ::
    ((nat_lit 104 : Nat), ⟨(.type "tuple"), (@none Nat), (.seq #[] (0 : Nat)), #[]⟩) ::
    ((nat_lit 106 : Nat), ⟨(.type "code"), (@none Nat), (.fields #[(.str (.ofString "flatten") (325 : Nat)), (.str (.ofString "flatten") (326 : Nat)), (.str (.ofString "/claim/cut.py") (327 : Nat)), (.int 68 (0 : Nat)), (.int 1 (0 : Nat)), (.int 0 (0 : Nat)), (.int 0 (0 : Nat)), (.int 3 (0 : Nat)), (.ref (101 : Nat)), (.bool true), (.int 181 (0 : Nat)), (.ref (102 : Nat)), .none, (.ref (103 : Nat)), (.ref (104 : Nat)), (.ref (105 : Nat)), (.int 332 (0 : Nat)), (.int 68 (0 : Nat)), (.str (.ofString "/claim/cut.py") (333 : Nat))]), #[]⟩) ::
    ((nat_lit 107 : Nat), ⟨(.type "function"), (@none Nat), (.func ⟨(.ofString "flatten"), (.ofString "flatten"), p10, b10, s10, (3 : Nat), ([] : List (Str × Nat)), .none, .none, .none, (.str (.ofString "basicplus.flatten") (223 : Nat)), (@none Nat), (.ref (106 : Nat)), .none, (0 : Nat)⟩), #[]⟩) ::
    ((nat_lit 108 : Nat), ⟨(.type "tuple"), (@none Nat), (.seq #[] (0 : Nat)), #[]⟩) ::
    ((nat_lit 110 : Nat), ⟨(.type "tuple"), (@none Nat), (.seq #[(.str (.ofString "flat") (338 : Nat)), (.str (.ofString "line") (339 : Nat))] (0 : Nat)), #[]⟩) ::
    ((nat_lit 111 : Nat), ⟨(.type "tuple"), (@none Nat), (.seq #[] (0 : Nat)), #[]⟩) ::
    ((nat_lit 113 : Nat), ⟨(.type "code"), (@none Nat), (.fields #[(.str (.ofString "place_of") (335 : Nat)), (.str (.ofString "place_of") (336 : Nat)), (.str (.ofString "/claim/cut.py") (337 : Nat)), (.int 77 (0 : Nat)), (.int 2 (0 : Nat)), (.int 0 (0 : Nat)), (.int 0 (0 : Nat)), (.int 3 (0 : Nat)), (.ref (108 : Nat)), (.bool true), (.int 181 (0 : Nat)), (.ref (109 : Nat)), .none, (.ref (110 : Nat)), (.ref (111 : Nat)), (.ref (112 : Nat)), (.int 340 (0 : Nat)), (.int 77 (0 : Nat)), (.str (.ofString "/claim/cut.py") (341 : Nat))]), #[]⟩) ::
    ((nat_lit 114 : Nat), ⟨(.type "function"), (@none Nat), (.func ⟨(.ofString "place_of"), (.ofString "place_of"), p11, b11, s11, (3 : Nat), ([] : List (Str × Nat)), .none, .none, .none, (.str (.ofString "basicplus.flatten") (223 : Nat)), (@none Nat), (.ref (113 : Nat)), .none, (0 : Nat)⟩), #[]⟩) ::
    ((nat_lit 115 : Nat), ⟨(.type "tuple"), (@none Nat), (.seq #[] (0 : Nat)), #[]⟩) ::
    ((nat_lit 117 : Nat), ⟨(.type "tuple"), (@none Nat), (.seq #[(.str (.ofString "flat") (346 : Nat)), (.str (.ofString "row") (347 : Nat))] (0 : Nat)), #[]⟩) ::
    ((nat_lit 118 : Nat), ⟨(.type "tuple"), (@none Nat), (.seq #[] (0 : Nat)), #[]⟩) ::
    ((nat_lit 120 : Nat), ⟨(.type "code"), (@none Nat), (.fields #[(.str (.ofString "line_of") (343 : Nat)), (.str (.ofString "line_of") (344 : Nat)), (.str (.ofString "/claim/cut.py") (345 : Nat)), (.int 81 (0 : Nat)), (.int 2 (0 : Nat)), (.int 0 (0 : Nat)), (.int 0 (0 : Nat)), (.int 3 (0 : Nat)), (.ref (115 : Nat)), (.bool true), (.int 181 (0 : Nat)), (.ref (116 : Nat)), .none, (.ref (117 : Nat)), (.ref (118 : Nat)), (.ref (119 : Nat)), (.int 348 (0 : Nat)), (.int 81 (0 : Nat)), (.str (.ofString "/claim/cut.py") (349 : Nat))]), #[]⟩) ::
    ((nat_lit 121 : Nat), ⟨(.type "function"), (@none Nat), (.func ⟨(.ofString "line_of"), (.ofString "line_of"), p12, b12, s12, (3 : Nat), ([] : List (Str × Nat)), .none, .none, .none, (.str (.ofString "basicplus.flatten") (223 : Nat)), (@none Nat), (.ref (120 : Nat)), .none, (0 : Nat)⟩), #[]⟩) ::
    ((nat_lit 122 : Nat), ⟨(.type "tuple"), (@none Nat), (.seq #[] (0 : Nat)), #[]⟩) ::
    ((nat_lit 124 : Nat), ⟨(.type "tuple"), (@none Nat), (.seq #[(.str (.ofString "flat") (354 : Nat)), (.str (.ofString "row") (355 : Nat)), (.str (.ofString "line") (356 : Nat))] (0 : Nat)), #[]⟩) ::
    ((nat_lit 125 : Nat), ⟨(.type "tuple"), (@none Nat), (.seq #[] (0 : Nat)), #[]⟩) ::
    ((nat_lit 127 : Nat), ⟨(.type "code"), (@none Nat), (.fields #[(.str (.ofString "next_line") (351 : Nat)), (.str (.ofString "next_line") (352 : Nat)), (.str (.ofString "/claim/cut.py") (353 : Nat)), (.int 83 (0 : Nat)), (.int 2 (0 : Nat)), (.int 0 (0 : Nat)), (.int 0 (0 : Nat)), (.int 3 (0 : Nat)), (.ref (122 : Nat)), (.bool true), (.int 181 (0 : Nat)), (.ref (123 : Nat)), .none, (.ref (124 : Nat)), (.ref (125 : Nat)), (.ref (126 : Nat)), (.int 357 (0 : Nat)), (.int 83 (0 : Nat)), (.str (.ofString "/claim/cut.py") (358 : Nat))]), #[]⟩) ::
    ((nat_lit 128 : Nat), ⟨(.type "function"), (@none Nat), (.func ⟨(.ofString "next_line"), (.ofString "next_line"), p13, b13, s13, (3 : Nat), ([] : List (Str × Nat)), .none, .none, .none, (.str (.ofString "basicplus.flatten") (223 : Nat)), (@none Nat), (.ref (127 : Nat)), .none, (0 : Nat)⟩), #[]⟩) ::
    ((nat_lit 129 : Nat), ⟨(.type "tuple"), (@none Nat), (.seq #[] (0 : Nat)), #[]⟩) ::
    ((nat_lit 131 : Nat), ⟨(.type "tuple"), (@none Nat), (.seq #[(.str (.ofString "flat") (363 : Nat)), (.str (.ofString "row") (364 : Nat))] (0 : Nat)), #[]⟩) ::
    ((nat_lit 132 : Nat), ⟨(.type "tuple"), (@none Nat), (.seq #[] (0 : Nat)), #[]⟩) ::
    ((nat_lit 134 : Nat), ⟨(.type "code"), (@none Nat), (.fields #[(.str (.ofString "end_of_while") (360 : Nat)), (.str (.ofString "end_of_while") (361 : Nat)), (.str (.ofString "/claim/cut.py") (362 : Nat)), (.int 88 (0 : Nat)), (.int 2 (0 : Nat)), (.int 0 (0 : Nat)), (.int 0 (0 : Nat)), (.int 3 (0 : Nat)), (.ref (129 : Nat)), (.bool true), (.int 181 (0 : Nat)), (.ref (130 : Nat)), .none, (.ref (131 : Nat)), (.ref (132 : Nat)), (.ref (133 : Nat)), (.int 365 (0 : Nat)), (.int 88 (0 : Nat)), (.str (.ofString "/claim/cut.py") (366 : Nat))]), #[]⟩) ::
    ((nat_lit 135 : Nat), ⟨(.type "function"), (@none Nat), (.func ⟨(.ofString "end_of_while"), (.ofString "end_of_while"), p14, b14, s14, (3 : Nat), ([] : List (Str × Nat)), .none, .none, .none, (.str (.ofString "basicplus.flatten") (223 : Nat)), (@none Nat), (.ref (134 : Nat)), .none, (0 : Nat)⟩), #[]⟩) ::
    ((nat_lit 136 : Nat), ⟨(.type "tuple"), (@none Nat), (.seq #[] (0 : Nat)), #[]⟩) ::
    ((nat_lit 138 : Nat), ⟨(.type "tuple"), (@none Nat), (.seq #[(.str (.ofString "flat") (371 : Nat)), (.str (.ofString "row") (372 : Nat))] (0 : Nat)), #[]⟩) ::
    ((nat_lit 139 : Nat), ⟨(.type "tuple"), (@none Nat), (.seq #[] (0 : Nat)), #[]⟩) ::
    ((nat_lit 141 : Nat), ⟨(.type "code"), (@none Nat), (.fields #[(.str (.ofString "next_of_for") (368 : Nat)), (.str (.ofString "next_of_for") (369 : Nat)), (.str (.ofString "/claim/cut.py") (370 : Nat)), (.int 92 (0 : Nat)), (.int 2 (0 : Nat)), (.int 0 (0 : Nat)), (.int 0 (0 : Nat)), (.int 3 (0 : Nat)), (.ref (136 : Nat)), (.bool true), (.int 181 (0 : Nat)), (.ref (137 : Nat)), .none, (.ref (138 : Nat)), (.ref (139 : Nat)), (.ref (140 : Nat)), (.int 373 (0 : Nat)), (.int 92 (0 : Nat)), (.str (.ofString "/claim/cut.py") (374 : Nat))]), #[]⟩) ::
    ((nat_lit 142 : Nat), ⟨(.type "function"), (@none Nat), (.func ⟨(.ofString "next_of_for"), (.ofString "next_of_for"), p15, b15, s15, (3 : Nat), ([] : List (Str × Nat)), .none, .none, .none, (.str (.ofString "basicplus.flatten") (223 : Nat)), (@none Nat), (.ref (141 : Nat)), .none, (0 : Nat)⟩), #[]⟩) ::
    ((nat_lit 143 : Nat), ⟨(.type "tuple"), (@none Nat), (.seq #[] (0 : Nat)), #[]⟩) ::
    ((nat_lit 145 : Nat), ⟨(.type "tuple"), (@none Nat), (.seq #[(.str (.ofString "flat") (379 : Nat))] (0 : Nat)), #[]⟩) ::
    ((nat_lit 146 : Nat), ⟨(.type "tuple"), (@none Nat), (.seq #[] (0 : Nat)), #[]⟩) ::
    ((nat_lit 148 : Nat), ⟨(.type "code"), (@none Nat), (.fields #[(.str (.ofString "line_numbers") (376 : Nat)), (.str (.ofString "line_numbers") (377 : Nat)), (.str (.ofString "/claim/cut.py") (378 : Nat)), (.int 96 (0 : Nat)), (.int 1 (0 : Nat)), (.int 0 (0 : Nat)), (.int 0 (0 : Nat)), (.int 3 (0 : Nat)), (.ref (143 : Nat)), (.bool true), (.int 181 (0 : Nat)), (.ref (144 : Nat)), .none, (.ref (145 : Nat)), (.ref (146 : Nat)), (.ref (147 : Nat)), (.int 380 (0 : Nat)), (.int 96 (0 : Nat)), (.str (.ofString "/claim/cut.py") (381 : Nat))]), #[]⟩) ::
    ((nat_lit 149 : Nat), ⟨(.type "function"), (@none Nat), (.func ⟨(.ofString "line_numbers"), (.ofString "line_numbers"), p16, b16, s16, (3 : Nat), ([] : List (Str × Nat)), .none, .none, .none, (.str (.ofString "basicplus.flatten") (223 : Nat)), (@none Nat), (.ref (148 : Nat)), .none, (0 : Nat)⟩), #[]⟩) ::
    ((nat_lit 150 : Nat), ⟨(.type "tuple"), (@none Nat), (.seq #[] (0 : Nat)), #[]⟩) ::
    ((nat_lit 152 : Nat), ⟨(.type "tuple"), (@none Nat), (.seq #[(.str (.ofString "box") (388 : Nat)), (.str (.ofString "deep") (389 : Nat)), (.str (.ofString "found") (390 : Nat)), (.str (.ofString "number") (391 : Nat)), (.str (.ofString "spot") (392 : Nat)), (.str (.ofString "form") (393 : Nat)), (.str (.ofString "mark") (394 : Nat))] (0 : Nat)), #[]⟩) ::
    ((nat_lit 153 : Nat), ⟨(.type "tuple"), (@none Nat), (.seq #[] (0 : Nat)), #[]⟩) ::
    ((nat_lit 155 : Nat), ⟨(.type "code"), (@none Nat), (.fields #[(.str (.ofString "_law_statements") (385 : Nat)), (.str (.ofString "_law_statements") (386 : Nat)), (.str (.ofString "/claim/cut.py") (387 : Nat)), (.int 99 (0 : Nat)), (.int 2 (0 : Nat)), (.int 0 (0 : Nat)), (.int 0 (0 : Nat)), (.int 3 (0 : Nat)), (.ref (150 : Nat)), (.bool true), (.int 181 (0 : Nat)), (.ref (151 : Nat)), .none, (.ref (152 : Nat)), (.ref (153 : Nat)), (.ref (154 : Nat)), (.int 395 (0 : Nat)), (.int 99 (0 : Nat)), (.str (.ofString "/claim/cut.py") (396 : Nat))]), #[]⟩) ::
    ((nat_lit 156 : Nat), ⟨(.type "function"), (@none Nat), (.func ⟨(.ofString "_law_statements"), (.ofString "_law_statements"), p18, b18, s18, (3 : Nat), ([] : List (Str × Nat)), .none, .none, .none, (.str (.ofString "law_pc0003_01") (383 : Nat)), (@none Nat), (.ref (155 : Nat)), .none, (0 : Nat)⟩), #[]⟩) ::
    ((nat_lit 157 : Nat), ⟨(.type "tuple"), (@none Nat), (.seq #[] (0 : Nat)), #[]⟩) ::
    ((nat_lit 159 : Nat), ⟨(.type "tuple"), (@none Nat), (.seq #[(.str (.ofString "form") (401 : Nat)), (.str (.ofString "mark") (402 : Nat)), (.str (.ofString "name") (403 : Nat))] (0 : Nat)), #[]⟩) ::
    ((nat_lit 160 : Nat), ⟨(.type "tuple"), (@none Nat), (.seq #[] (0 : Nat)), #[]⟩) ::
    ((nat_lit 162 : Nat), ⟨(.type "code"), (@none Nat), (.fields #[(.str (.ofString "_law_simple") (398 : Nat)), (.str (.ofString "_law_simple") (399 : Nat)), (.str (.ofString "/claim/cut.py") (400 : Nat)), (.int 113 (0 : Nat)), (.int 2 (0 : Nat)), (.int 0 (0 : Nat)), (.int 0 (0 : Nat)), (.int 3 (0 : Nat)), (.ref (157 : Nat)), (.bool true), (.int 181 (0 : Nat)), (.ref (158 : Nat)), .none, (.ref (159 : Nat)), (.ref (160 : Nat)), (.ref (161 : Nat)), (.int 404 (0 : Nat)), (.int 113 (0 : Nat)), (.str (.ofString "/claim/cut.py") (405 : Nat))]), #[]⟩) ::
    ((nat_lit 163 : Nat), ⟨(.type "function"), (@none Nat), (.func ⟨(.ofString "_law_simple"), (.ofString "_law_simple"), p19, b19, s19, (3 : Nat), ([] : List (Str × Nat)), .none, .none, .none, (.str (.ofString "law_pc0003_01") (383 : Nat)), (@none Nat), (.ref (162 : Nat)), .none, (0 : Nat)⟩), #[]⟩) ::
    ((nat_lit 164 : Nat), ⟨(.type "tuple"), (@none Nat), (.seq #[] (0 : Nat)), #[]⟩) ::
    ((nat_lit 166 : Nat), ⟨(.type "tuple"), (@none Nat), (.seq #[(.str (.ofString "statements") (410 : Nat)), (.str (.ofString "answers") (411 : Nat)), (.str (.ofString "found") (412 : Nat)), (.str (.ofString "statement") (413 : Nat))] (0 : Nat)), #[]⟩) ::
    ((nat_lit 167 : Nat), ⟨(.type "tuple"), (@none Nat), (.seq #[] (0 : Nat)), #[]⟩) ::
    ((nat_lit 169 : Nat), ⟨(.type "code"), (@none Nat), (.fields #[(.str (.ofString "_law_come_to") (407 : Nat)), (.str (.ofString "_law_come_to") (408 : Nat)), (.str (.ofString "/claim/cut.py") (409 : Nat)), (.int 116 (0 : Nat)), (.int 2 (0 : Nat)), (.int 0 (0 : Nat)), (.int 0 (0 : Nat)), (.int 3 (0 : Nat)), (.ref (164 : Nat)), (.bool true), (.int 181 (0 : Nat)), (.ref (165 : Nat)), .none, (.ref (166 : Nat)), (.ref (167 : Nat)), (.ref (168 : Nat)), (.int 414 (0 : Nat)), (.int 116 (0 : Nat)), (.str (.ofString "/claim/cut.py") (415 : Nat))]), #[]⟩) ::
    ((nat_lit 170 : Nat), ⟨(.type "function"), (@none Nat), (.func ⟨(.ofString "_law_come_to"), (.ofString "_law_come_to"), p20, b20, s20, (3 : Nat), ([] : List (Str × Nat)), .none, .none, .none, (.str (.ofString "law_pc0003_01") (383 : Nat)), (@none Nat), (.ref (169 : Nat)), .none, (0 : Nat)⟩), #[]⟩) ::
    ((nat_lit 171 : Nat), ⟨(.type "tuple"), (@none Nat), (.seq #[] (0 : Nat)), #[]⟩) ::
    ((nat_lit 173 : Nat), ⟨(.type "tuple"), (@none Nat), (.seq #[(.str (.ofString "flat") (420 : Nat)), (.str (.ofString "line") (421 : Nat)), (.str (.ofString "answers") (422 : Nat)), (.str (.ofString "found") (423 : Nat)), (.str (.ofString "row") (424 : Nat)), (.str (.ofString "turn") (425 : Nat)), (.str (.ofString "statement") (426 : Nat))] (0 : Nat)), #[]⟩) ::
    ((nat_lit 174 : Nat), ⟨(.type "tuple"), (@none Nat), (.seq #[] (0 : Nat)), #[]⟩) ::
    ((nat_lit 176 : Nat), ⟨(.type "code"), (@none Nat), (.fields #[(.str (.ofString "_law_gone") (417 : Nat)), (.str (.ofString "_law_gone") (418 : Nat)), (.str (.ofString "/claim/cut.py") (419 : Nat)), (.int 124 (0 : Nat)), (.int 3 (0 : Nat)), (.int 0 (0 : Nat)), (.int 0 (0 : Nat)), (.int 3 (0 : Nat)), (.ref (171 : Nat)), (.bool true), (.int 181 (0 : Nat)), (.ref (172 : Nat)), .none, (.ref (173 : Nat)), (.ref (174 : Nat)), (.ref (175 : Nat)), (.int 427 (0 : Nat)), (.int 124 (0 : Nat)), (.str (.ofString "/claim/cut.py") (428 : Nat))]), #[]⟩) ::
    ((nat_lit 177 : Nat), ⟨(.type "function"), (@none Nat), (.func ⟨(.ofString "_law_gone"), (.ofString "_law_gone"), p21, b21, s21, (3 : Nat), ([] : List (Str × Nat)), .none, .none, .none, (.str (.ofString "law_pc0003_01") (383 : Nat)), (@none Nat), (.ref (176 : Nat)), .none, (0 : Nat)⟩), #[]⟩) ::
    ((nat_lit 178 : Nat), ⟨(.type "tuple"), (@none Nat), (.seq #[] (0 : Nat)), #[]⟩) ::
    ((nat_lit 181 : Nat), ⟨(.type "code"), (@none Nat), (.fields #[(.str (.ofString "_law_belongs") (430 : Nat)), (.str (.ofString "_law_belongs") (431 : Nat)), (.str (.ofString "/claim/cut.py") (432 : Nat)), (.int 138 (0 : Nat)), (.int 1 (0 : Nat)), (.int 0 (0 : Nat)), (.int 0 (0 : Nat)), (.int 3 (0 : Nat)), (.ref (178 : Nat)), (.bool true), (.int 181 (0 : Nat)), (.ref (179 : Nat)), .none, .none, .none, (.ref (180 : Nat)), (.int 433 (0 : Nat)), (.int 138 (0 : Nat)), (.str (.ofString "/claim/cut.py") (434 : Nat))]), #[]⟩) ::
    ((nat_lit 182 : Nat), ⟨(.type "function"), (@none Nat), (.func ⟨(.ofString "_law_belongs"), (.ofString "_law_belongs"), p22, b22, s22, (3 : Nat), ([] : List (Str × Nat)), .none, .none, .none, (.str (.ofString "law_pc0003_01") (383 : Nat)), (@none Nat), (.ref (181 : Nat)), .none, (0 : Nat)⟩), #[]⟩) ::
    ((nat_lit 183 : Nat), ⟨(.type "tuple"), (@none Nat), (.seq #[] (0 : Nat)), #[]⟩) ::
    ((nat_lit 185 : Nat), ⟨(.type "tuple"), (@none Nat), (.seq #[(.str (.ofString "work") (439 : Nat)), (.str (.ofString "refusal") (440 : Nat))] (0 : Nat)), #[]⟩) ::
    ((nat_lit 186 : Nat), ⟨(.type "tuple"), (@none Nat), (.seq #[] (0 : Nat)), #[]⟩) ::
    ((nat_lit 188 : Nat), ⟨(.type "code"), (@none Nat), (.fields #[(.str (.ofString "_law_told") (436 : Nat)), (.str (.ofString "_law_told") (437 : Nat)), (.str (.ofString "/claim/cut.py") (438 : Nat)), (.int 155 (0 : Nat)), (.int 1 (0 : Nat)), (.int 0 (0 : Nat)), (.int 0 (0 : Nat)), (.int 3 (0 : Nat)), (.ref (183 : Nat)), (.bool true), (.int 181 (0 : Nat)), (.ref (184 : Nat)), .none, (.ref (185 : Nat)), (.ref (186 : Nat)), (.ref (187 : Nat)), (.int 441 (0 : Nat)), (.int 155 (0 : Nat)), (.str (.ofString "/claim/cut.py") (442 : Nat))]), #[]⟩) ::
    ((nat_lit 189 : Nat), ⟨(.type "function"), (@none Nat), (.func ⟨(.ofString "_law_told"), (.ofString "_law_told"), p23, b23, s23, (3 : Nat), ([] : List (Str × Nat)), .none, .none, .none, (.str (.ofString "law_pc0003_01") (383 : Nat)), (@none Nat), (.ref (188 : Nat)), .none, (0 : Nat)⟩), #[]⟩) ::
    ((nat_lit 190 : Nat), ⟨(.type "tuple"), (@none Nat), (.seq #[] (0 : Nat)), #[]⟩) ::
    ((nat_lit 193 : Nat), ⟨(.type "code"), (@none Nat), (.fields #[(.str (.ofString "law") (444 : Nat)), (.str (.ofString "law") (445 : Nat)), (.str (.ofString "/claim/cut.py") (446 : Nat)), (.int 160 (0 : Nat)), (.int 1 (0 : Nat)), (.int 0 (0 : Nat)), (.int 0 (0 : Nat)), (.int 3 (0 : Nat)), (.ref (190 : Nat)), (.bool true), (.int 181 (0 : Nat)), (.ref (191 : Nat)), .none, .none, .none, (.ref (192 : Nat)), (.int 447 (0 : Nat)), (.int 160 (0 : Nat)), (.str (.ofString "/claim/cut.py") (448 : Nat))]), #[]⟩) ::
    ((nat_lit 194 : Nat), ⟨(.type "function"), (@none Nat), (.func ⟨(.ofString "law"), (.ofString "law"), p24, b24, s24, (3 : Nat), ([] : List (Str × Nat)), .none, .none, .none, (.str (.ofString "law_pc0003_01") (383 : Nat)), (@none Nat), (.ref (193 : Nat)), .none, (0 : Nat)⟩), #[]⟩) :: [] : List (Nat × Obj))
noncomputable def adrs : List Addr := [2, 3, 15, 18, 23, 24, 25, 27, 28, 30, 31, 32, 33, 34, 35, 45, 47, 48, 50, 51, 52, 53, 54, 55, 56, 59, 61, 62, 64, 65, 66, 68, 69, 71, 72, 73, 75, 76, 78, 79, 80, 82, 83, 85, 86, 87, 89, 90, 92, 93, 94, 96, 97, 99, 100, 101, 103, 104, 106, 107, 108, 110, 111, 113, 114, 115, 117, 118, 120, 121, 122, 124, 125, 127, 128, 129, 131, 132, 134, 135, 136, 138, 139, 141, 142, 143, 145, 146, 148, 149, 150, 152, 153, 155, 156, 157, 159, 160, 162, 163, 164, 166, 167, 169, 170, 171, 173, 174, 176, 177, 178, 181, 182, 183, 185, 186, 188, 189, 190, 193, 194]
noncomputable abbrev Led := List (Addr × Obj)
noncomputable abbrev tupO (l : List Value) : Obj := { cls := .type "tuple", data := .seq l.toArray }
noncomputable abbrev lstO (l : List Value) (n : Nat) : Obj := { cls := .type "list", data := .seq l.toArray n }
structure Hold (P : Prop) : Prop where
  out : P
theorem newsSub {h₀ h : Heap} {L : Addr} {l l' : Led} (N : News h₀ L h l) (hs : ∀ p ∈ l', p ∈ l) : News h₀ L h l' := fun p hp => N p (hs p hp)
noncomputable def Off (l : Led) (d : Addr) : Prop := ∀ p ∈ l, p.1 ≠ d
noncomputable def Apart (tl l : Led) : Prop := ∀ p ∈ tl, ∀ q ∈ l, p.1 ≠ q.1
theorem allLt_iff {d : Addr} : ∀ {l : Led}, AllLt d l ↔ ∀ p ∈ l, p.1 < d
  | [] => ⟨fun _ _ h => (nomatch h), fun _ => trivial⟩
  | p :: r => ⟨fun h q hq => by
      rcases List.mem_cons.mp hq with rfl | hq
      · exact h.1
      · exact allLt_iff.mp h.2 q hq, fun h => ⟨h p (.head _), allLt_iff.mpr fun q hq => h q (.tail _ hq)⟩⟩
theorem off_of_lt {d : Addr} {l : Led} (h : AllLt d l) : ∀ p ∈ l, p.1 ≠ d := fun p hp => Nat.ne_of_lt (allLt_iff.mp h p hp)
theorem off_append {d : Addr} {l l' : Led} (h : ∀ p ∈ l, p.1 ≠ d) (h' : ∀ p ∈ l', p.1 ≠ d) : ∀ p ∈ l ++ l', p.1 ≠ d := fun p hp => (List.mem_append.mp hp).elim (h p) (h' p)
theorem off_of_apart {d : Addr} {o : Obj} {tl l : Led} (h : Apart tl l) (hm : (d, o) ∈ l) : ∀ p ∈ tl, p.1 ≠ d := fun p hp => h p hp _ hm

structure Cx (w : World) (p : Program) (loose : List Str) (mean : ExcName → Option Value) (mg mb : Str → Option Value) (cs : Scope) (outer : List Env) (A₀ : Around) (base h₀ : Heap) (L : Addr) (m : Str → Option Value) (h : Heap) : Prop where
  B : Below A₀ base outer h₀
  F : Fr h₀ L h m
  X : (Mine.K w.params).In h₀
  T : Top p loose mean mg mb h₀
  hk : cs.kind = .function

noncomputable abbrev strE (P : Params) (x : Str) (t : Tok) (v : Value) : DictEntry := { hash := PyData.keyHash P x, key := .str x t, val := v }
structure FA where
  o : Addr
  d : Addr
  rows : Addr
  places : Addr
  data : Addr
  pairs : Addr
  loops : Addr
  fns : Addr
  k0 : Tok
  k1 : Tok
  k2 : Tok
  k3 : Tok
  k4 : Tok
  k5 : Tok
noncomputable abbrev FA.es (f : FA) (P : Params) : List DictEntry :=
  [strE P (Str.ofString "rows") f.k0 (.ref f.rows), strE P (Str.ofString "places") f.k1 (.ref f.places), strE P (Str.ofString "data") f.k2 (.ref f.data), strE P (Str.ofString "pairs") f.k3 (.ref f.pairs), strE P (Str.ofString "loops") f.k4 (.ref f.loops), strE P (Str.ofString "fns") f.k5 (.ref f.fns)]
structure FlatIn (P : Params) (f : FA) (l : Led) : Prop where
  o : (f.o, instObj 54 f.d) ∈ l
  d : (f.d, dictOf (f.es P) 6) ∈ l
theorem FlatIn.mono {P : Params} {f : FA} {l l' : Led} (h : FlatIn P f l) (hs : ∀ p ∈ l, p ∈ l') : FlatIn P f l' := ⟨hs _ h.o, hs _ h.d⟩
structure Ext (led imm imm' : Led) : Prop where
  sub : ∀ p ∈ imm, p ∈ imm'
  new : ∀ p ∈ imm', p ∈ imm ∨ ∀ q ∈ led, p.1 ≠ q.1
theorem Ext.refl {led imm : Led} : Ext led imm imm := ⟨fun _ h => h, fun _ h => .inl h⟩
theorem Ext.cons {led imm imm' : Led} {D : Addr} {o : Obj} (e : Ext led imm imm') (h : ∀ q ∈ led, D ≠ q.1) : Ext led imm ((D, o) :: imm') :=
  ⟨fun p hp => .tail _ (e.sub p hp), fun p hp => (List.mem_cons.mp hp).elim (fun z => .inr (z ▸ h)) (e.new p)⟩
theorem Ext.trans {led led2 imm imm2 imm3 : Led} (e : Ext led imm imm2) (e2 : Ext led2 imm2 imm3) (h : ∀ q ∈ led, ∃ q' ∈ led2, q'.1 = q.1) : Ext led imm imm3 :=
  ⟨fun p hp => e2.sub p (e.sub p hp), fun p hp => (e2.new p hp).elim (e.new p) fun z => .inr fun q hq => by obtain ⟨q', h', x⟩ := h q hq; exact x ▸ z q' h'⟩
theorem Ext.off {led imm imm' : Led} {d : Addr} {o : Obj} (e : Ext led imm imm') (hm : (d, o) ∈ led) (h : ∀ p ∈ imm, p.1 ≠ d) : ∀ p ∈ imm', p.1 ≠ d := fun p hp => (e.new p hp).elim (h p) fun z => z _ hm
theorem gt_of_allLt {D : Addr} {led : Led} (h : AllLt D led) : ∀ q ∈ led, D ≠ q.1 := fun q hq => Nat.ne_of_gt (allLt_iff.mp h q hq)
noncomputable def AddrSub (led led2 : Led) : Prop := ∀ q ∈ led, ∃ q' ∈ led2, q'.1 = q.1
theorem AddrSub.nil {l : Led} : AddrSub [] l := fun _ h => nomatch h
theorem AddrSub.cons {d : Addr} {o o' : Obj} {l l2 : Led} (hm : (d, o') ∈ l2) (h : AddrSub l l2) : AddrSub ((d, o) :: l) l2 := fun q hq => (List.mem_cons.mp hq).elim (fun z => ⟨_, hm, by rw [z]⟩) (h q)
theorem AddrSub.of_sub {l l2 : Led} (h : ∀ p ∈ l, p ∈ l2) : AddrSub l l2 := fun q hq => ⟨q, h q hq, rfl⟩
section
variable {M : Model} {A : Around} {E : Value → Shared → Prop} {s : Shared} {env : Env}
noncomputable def TurnIs (s : Shared) (h₀ : Heap) (L : Addr) (own : Led) (Jn : (Str → Option Value) → Led → Prop) (Q : Flow → Shared → Prop) (f : Flow) (s₃ : Shared) : Prop :=
  match f with
  | .ret v => Q (.ret v) s₃
  | .brk => Q .next s₃
  | _ => ∃ h' tk' m' news', s₃ = { s with heap := h', toks := tk' } ∧ Fr h₀ L h' m' ∧ News h₀ L h' (own ++ news') ∧ Apart own news' ∧ Jn m' news'
theorem for_hold {target iter body orelse pos} {Q : Flow → Shared → Prop}
    (h : wpAny M A (eval iter env) (fun x s₁ => Hold (wpAny M A (pyIter x) (fun it s₂ =>
      codeAny M A (.forLoop target it body orelse env) (fun r s' => match r with | .ok f => Q f s' | .error e => cameBackBy M A env E e s') s₂) E s₁)) E s)
    (hs : ∀ x, foldedSetIterable iter env x = pure x) :
    wpAny M A (exec (.For target iter body orelse pos) env) Q E s :=
  wpAny_For (wpAny_mono h (fun _ _ h => h.out) fun _ _ e => e) hs
theorem call_hold {f : Value} {as : List Value} {Q : Value → Shared → Prop} (h : Hold (wpAny M A (call f as) Q E s)) : wpAny M A (call f as) Q E s := h.out
end

section
variable {prog : Program} {w : World} {A : Around} {E : Value → Shared → Prop} {s : Shared} {env : Env} {h₀ : Heap} {Q : Flow → Shared → Prop} {target : Expr} {body : List Stmt} {m : Str → Option Value} {news : Led}

theorem letGo_listiter {I l : Addr} {i : Nat} {v : Value} {Q' : Unit → Shared → Prop} {s' : Shared} (hit : s'.heap.IsListIter I l i) (h : Q' () s') :
    wpAny (model prog w) A (letOwnedTupleGo target (.ref I) v) Q' E s' := by
  obtain ⟨o, ho, hc, hd⟩ := hit
  unfold letOwnedTupleGo
  cases target <;> first
    | exact wpAny_pure h
    | (cases v <;> first
        | exact wpAny_pure h
        | (refine wpAny_bind (wpAny_load ho ?_)
           rw [hc, hd]
           exact wpAny_pure h))

theorem fr_same {h h' : Heap} {L I : Addr} (F : Fr h₀ L h m) (hI : h₀.get? I = none) (hIL : I ≠ L) (hs : Heap.SameBut I h h') : Fr h₀ L h' m :=
  ⟨F.ns.sameBut hs (Ne.symm hIL), fun b o e => (hs.2 b (fun q => by rw [q, hI] at e; cases e)).trans (F.keep b o e), F.above⟩
theorem news_same {h h' : Heap} {L I : Addr} (N : News h₀ L h news) (ho : ∀ p ∈ news, p.1 ≠ I) (hs : Heap.SameBut I h h') : News h₀ L h' news :=
  fun p hp => ⟨(hs.2 p.1 (ho p hp)).trans (N p hp).1, (N p hp).2⟩

theorem loop_list {l : Addr} {lo : Obj} {items : List Value} {k : Nat} (J : List Value → (Str → Option Value) → Led → Prop) (hh : A.handled = none)
    (F : Fr h₀ env.locals s.heap m) (N : News h₀ env.locals s.heap news) (hl : lo = lstO items k) (h0 : J items m news) (hmem : ∀ r m₁ n₁, J r m₁ n₁ → (l, lo) ∈ n₁)
    (turn : ∀ v rest m₁ news₁ I o h tk, J (v :: rest) m₁ news₁ → AllLt I news → (∀ p ∈ news₁, p.1 ≠ I) → Fr h₀ env.locals h m₁ → News h₀ env.locals h ((I, o) :: news₁) →
      wpAny (model prog w) A (assign target env v) (fun _ s₂ => wpAny (model prog w) A (execs body env) (TurnIs s h₀ env.locals [(I, o)] (J rest) Q) (fun _ _ => False) s₂) (fun _ _ => False) { s with heap := h, toks := tk })
    (done : ∀ h tk m₁ news₁, J [] m₁ news₁ → Fr h₀ env.locals h m₁ → News h₀ env.locals h news₁ → Q .next { s with heap := h, toks := tk }) :
    wpAny (model prog w) A (pyIter (.ref l)) (fun it s₂ =>
      codeAny (model prog w) A (.forLoop target it body [] env) (fun r s' => match r with | .ok f => Q f s' | .error e => cameBackBy (model prog w) A env E e s') s₂) E s := by
  subst hl
  have hls : ∀ {r m₁ n₁ h}, J r m₁ n₁ → News h₀ env.locals h n₁ → h.IsList l items.toArray := fun j n => ⟨_, (n _ (hmem _ _ _ j)).1, rfl, k, rfl⟩
  refine wpAny_pyIter_list (hls h0 N) ?_
  have hI0 : h₀.get? s.heap.objs.size = none := next_is_new F
  have hIL : s.heap.objs.size ≠ env.locals := Nat.ne_of_gt F.ns.lt
  refine codeAny_forLoop_any
    (fun c s' => ∃ i h' tk m' news', s' = { s with heap := h', toks := tk } ∧ i ≤ items.length ∧ c = items.length - i ∧ h'.IsListIter s.heap.objs.size l i ∧
      Fr h₀ env.locals h' m' ∧ News h₀ env.locals h' news' ∧ (∀ p ∈ news', p.1 ≠ s.heap.objs.size) ∧ J (items.drop i) m' news') ?_ items.length
    ⟨0, _, s.toks, m, news, rfl, Nat.zero_le _, rfl, ⟨_, Heap.get?_push_size _ rfl, rfl, rfl⟩, F.push _, (fun p hp => ⟨Heap.get?_push_of_some _ (N p hp).1, (N p hp).2⟩),
      (fun p hp => Nat.ne_of_lt (Heap.lt_size (N p hp).1)), h0⟩
  rintro c s' ⟨i, h', tk, m', news', rfl, hi, rfl, hit, F', N', off, hJ⟩
  have hl' := hls hJ N'
  by_cases hlt : i < items.length
  · refine wpAny_pyNext_list_item hit hl' (x := items[i]) (by simp [hlt]) fun h₁ hit₁ hs₁ => ?_
    have F₁ := fr_same F' hI0 hIL hs₁
    have N₁ := news_same N' off hs₁
    obtain ⟨o, ho, hc, hd⟩ := id hit₁
    refine letGo_listiter hit₁ ?_
    have hdrop : items.drop i = items[i] :: items.drop (i + 1) := List.drop_eq_getElem_cons hlt
    rw [hdrop] at hJ
    refine wpAny_mono (turn items[i] (items.drop (i + 1)) m' news' s.heap.objs.size o h₁ tk hJ (allLt_iff.mpr fun p hp => Heap.lt_size (N p hp).1) off F₁ (fun p hp => ?_)) (fun _ s₂ h₂ => wpAny_mono h₂ (fun f s₃ h₃ => ?_) fun _ _ x => x.elim) fun _ _ x => x.elim
    · rcases List.mem_cons.mp hp with rfl | hp
      · exact ⟨ho, hIL, hI0⟩
      · exact N₁ p hp
    · have fin : (∃ h' tk' m' news', s₃ = { s with heap := h', toks := tk' } ∧ Fr h₀ env.locals h' m' ∧ News h₀ env.locals h' ([(s.heap.objs.size, o)] ++ news') ∧ Apart [(s.heap.objs.size, o)] news' ∧ J (items.drop (i + 1)) m' news') → _ := fun ⟨h₂, tk₂, m₂, news₂, e₂, F₂, N₂, A₂, J₂⟩ =>
        (⟨items.length - (i + 1), by omega, i + 1, h₂, tk₂, m₂, news₂, e₂, hlt, rfl, ⟨o, (N₂ _ (.head _)).1, hc, hd⟩, F₂, newsSub N₂ (fun p hp => .tail _ hp), (fun p hp => Ne.symm (A₂ _ (.head _) p hp)), J₂⟩ :
          ∃ m, m < items.length - i ∧ ∃ i h' tk m' news', s₃ = { s with heap := h', toks := tk } ∧ i ≤ items.length ∧ m = items.length - i ∧ h'.IsListIter s.heap.objs.size l i ∧
            Fr h₀ env.locals h' m' ∧ News h₀ env.locals h' news' ∧ (∀ p ∈ news', p.1 ≠ s.heap.objs.size) ∧ J (items.drop i) m' news')
      cases f with
      | ret v => exact h₃
      | brk => exact h₃
      | next => exact fin h₃
      | cont => exact fin h₃
  · have hin : i = items.length := by omega
    subst hin
    refine wpAny_pyNext_list_end hh hit hl' (by simp) fun h₁ he₁ => wpAny_execs_nil ?_
    rw [List.drop_length] at hJ
    exact done h₁ tk m' news' hJ ⟨F'.ns.at' fun o e => he₁ _ o (Ne.symm hIL) e, fun b o e => he₁ b o (fun q => by rw [q, hI0] at e; cases e) (F'.keep b o e), F'.above⟩
      fun p hp => ⟨he₁ _ _ (off p hp) (N' p hp).1, (N' p hp).2⟩

theorem letGo_rangeiter {I : Addr} {x y z : Int} {v : Value} {Q' : Unit → Shared → Prop} {s' : Shared} (hit : IsRangeIter s'.heap I x y z) (h : Q' () s') :
    wpAny (model prog w) A (letOwnedTupleGo target (.ref I) v) Q' E s' := by
  unfold letOwnedTupleGo
  cases target <;> first
    | exact wpAny_pure h
    | (cases v <;> first
        | exact wpAny_pure h
        | (refine wpAny_bind (wpAny_load hit ?_)
           exact wpAny_pure h))

noncomputable abbrev rIt (x left : Int) : Obj := { cls := .type "range_iterator", dict := none, data := .fields #[rawInt x, rawInt left, rawInt 1], slots := #[] }
theorem loop_range {r : Addr} {a b : Int} {t u v : Tok} {n : Nat} (J : Nat → (Str → Option Value) → Led → Prop) (hh : A.handled = none)
    (F : Fr h₀ env.locals s.heap m) (N : News h₀ env.locals s.heap news) (hr : IsRange s.heap r a b 1 t u v) (hsmall : Builtin.Range.small a b 1 = true) (hn : Builtin.Range.rangeSize a b 1 = (n : Int)) (h0 : J 0 m news)
    (turn : ∀ i tv m₁ news₁ I o h tk, i < n → J i m₁ news₁ → AllLt I news → (∀ p ∈ news₁, p.1 ≠ I) → Fr h₀ env.locals h m₁ → News h₀ env.locals h ((I, o) :: news₁) →
      wpAny (model prog w) A (assign target env (.int (a + (i : Int)) tv)) (fun _ s₂ => wpAny (model prog w) A (execs body env) (TurnIs s h₀ env.locals [(I, o)] (J (i + 1)) Q) (fun _ _ => False) s₂) (fun _ _ => False) { s with heap := h, toks := tk })
    (done : ∀ h tk m₁ news₁, J n m₁ news₁ → Fr h₀ env.locals h m₁ → News h₀ env.locals h news₁ → Q .next { s with heap := h, toks := tk }) :
    wpAny (model prog w) A (pyIter (.ref r)) (fun it s₂ =>
      codeAny (model prog w) A (.forLoop target it body [] env) (fun r s' => match r with | .ok f => Q f s' | .error e => cameBackBy (model prog w) A env E e s') s₂) E s := by
  refine wpAny_pyIter_range hr hsmall ?_
  have hI0 : h₀.get? s.heap.objs.size = none := next_is_new F
  have hIL : s.heap.objs.size ≠ env.locals := Nat.ne_of_gt F.ns.lt
  refine codeAny_forLoop_any
    (fun c s' => ∃ i h' tk m' news', s' = { s with heap := h', toks := tk } ∧ i ≤ n ∧ c = n - i ∧ IsRangeIter h' s.heap.objs.size (a + (i : Int)) ((n : Int) - (i : Int)) 1 ∧
      Fr h₀ env.locals h' m' ∧ News h₀ env.locals h' news' ∧ (∀ p ∈ news', p.1 ≠ s.heap.objs.size) ∧ J i m' news') ?_ n
    ⟨0, _, s.toks, m, news, rfl, Nat.zero_le _, rfl, (by rw [hn]; simpa using Heap.get?_push_size _ rfl), F.push _, (fun p hp => ⟨Heap.get?_push_of_some _ (N p hp).1, (N p hp).2⟩),
      (fun p hp => Nat.ne_of_lt (Heap.lt_size (N p hp).1)), h0⟩
  rintro c s' ⟨i, h', tk, m', news', rfl, hi, rfl, hit, F', N', off, hJ⟩
  by_cases hlt : i < n
  · refine wpAny_pyNext_range_item hit (by omega) fun h₁ hit₁ hs₁ => ?_
    have F₁ := fr_same F' hI0 hIL hs₁
    have N₁ := news_same N' off hs₁
    have e1 : a + (i : Int) + 1 = a + ((i + 1 : Nat) : Int) := by omega
    have e2 : (n : Int) - (i : Int) - 1 = (n : Int) - ((i + 1 : Nat) : Int) := by omega
    rw [e1, e2] at hit₁
    refine letGo_rangeiter hit₁ ?_
    refine wpAny_mono (turn i tk m' news' s.heap.objs.size (rIt (a + ((i + 1 : Nat) : Int)) ((n : Int) - ((i + 1 : Nat) : Int))) h₁ (tk + 1) hlt hJ (allLt_iff.mpr fun p hp => Heap.lt_size (N p hp).1) off F₁ (fun p hp => ?_)) (fun _ s₂ h₂ => wpAny_mono h₂ (fun f s₃ h₃ => ?_) fun _ _ x => x.elim) fun _ _ x => x.elim
    · rcases List.mem_cons.mp hp with rfl | hp
      · exact ⟨hit₁, hIL, hI0⟩
      · exact N₁ p hp
    · have fin : (∃ h' tk' m' news', s₃ = { s with heap := h', toks := tk' } ∧ Fr h₀ env.locals h' m' ∧ News h₀ env.locals h' ([(s.heap.objs.size, rIt (a + ((i + 1 : Nat) : Int)) ((n : Int) - ((i + 1 : Nat) : Int)))] ++ news') ∧ Apart [(s.heap.objs.size, rIt (a + ((i + 1 : Nat) : Int)) ((n : Int) - ((i + 1 : Nat) : Int)))] news' ∧ J (i + 1) m' news') → _ := fun ⟨h₂, tk₂, m₂, news₂, e₂, F₂, N₂, A₂, J₂⟩ =>
        (⟨n - (i + 1), by omega, i + 1, h₂, tk₂, m₂, news₂, e₂, hlt, rfl, (N₂ _ (.head _)).1, F₂, newsSub N₂ (fun p hp => .tail _ hp), (fun p hp => Ne.symm (A₂ _ (.head _) p hp)), J₂⟩ :
          ∃ c, c < n - i ∧ ∃ i h' tk m' news', s₃ = { s with heap := h', toks := tk } ∧ i ≤ n ∧ c = n - i ∧ IsRangeIter h' s.heap.objs.size (a + (i : Int)) ((n : Int) - (i : Int)) 1 ∧
            Fr h₀ env.locals h' m' ∧ News h₀ env.locals h' news' ∧ (∀ p ∈ news', p.1 ≠ s.heap.objs.size) ∧ J i m' news')
      cases f with
      | ret v => exact h₃
      | brk => exact h₃
      | next => exact fin h₃
      | cont => exact fin h₃
  · have hin : i = n := by omega
    subst hin
    refine wpAny_pyNext_range_end hh hit (by omega) fun h₁ he₁ => wpAny_execs_nil ?_
    exact done h₁ tk m' news' hJ ⟨F'.ns.at' fun o e => he₁ _ o (Ne.symm hIL) e, fun b o e => he₁ b o (fun q => by rw [q, hI0] at e; cases e) (F'.keep b o e), F'.above⟩
      fun p hp => ⟨he₁ _ _ (off p hp) (N' p hp).1, (N' p hp).2⟩

noncomputable abbrev enumO (it : Addr) (i : Int) (old : Value) : Obj := { cls := .type "enumerate", dict := none, data := .fields #[.none, .bool false, .ref it, rawInt i, .none, old], slots := #[] }
noncomputable abbrev literO (l : Addr) (i : Nat) : Obj := { cls := .type "list_iterator", data := .fields #[.ref l, .int i 0] }

theorem fr_same2 {h h' : Heap} {L I e : Addr} (F : Fr h₀ L h m) (hI : h₀.get? I = none) (hIL : I ≠ L) (he : h₀.get? e = none) (heL : e ≠ L) (hs : ∀ b o, b ≠ e → b ≠ I → h.get? b = some o → h'.get? b = some o) : Fr h₀ L h' m :=
  ⟨F.ns.at' fun o q => hs _ o (Ne.symm heL) (Ne.symm hIL) q, fun b o q => hs b o (fun z => by rw [z, he] at q; cases q) (fun z => by rw [z, hI] at q; cases q) (F.keep b o q), F.above⟩
theorem news_same2 {h h' : Heap} {L I e : Addr} (N : News h₀ L h news) (ho : ∀ p ∈ news, p.1 ≠ I) (hoe : ∀ p ∈ news, p.1 ≠ e) (hs : ∀ b o, b ≠ e → b ≠ I → h.get? b = some o → h'.get? b = some o) : News h₀ L h' news :=
  fun p hp => ⟨hs p.1 _ (hoe p hp) (ho p hp) (N p hp).1, (N p hp).2⟩

theorem loop_enum {elts : List Expr} {x1 : Nat} {tpos : Pos} {l e it : Addr} {lo eo io : Obj} {items : List Value} {k : Nat} (J : Nat → List Value → (Str → Option Value) → Led → Prop) (hh : A.handled = none)
    (F : Fr h₀ env.locals s.heap m) (N : News h₀ env.locals s.heap ((e, eo) :: (it, io) :: news)) (heo : eo = enumO it 0 .none) (hio : io.cls = .type "list_iterator" ∧ io.data = .fields #[.ref l, .int 0 0]) (hei : e ≠ it) (hoe : ∀ p ∈ news, p.1 ≠ e) (hoi : ∀ p ∈ news, p.1 ≠ it)
    (hl : lo = lstO items k) (h0 : J 0 items m news) (hmem : ∀ i r m₁ n₁, J i r m₁ n₁ → (l, lo) ∈ n₁)
    (turn : ∀ i v rest m₁ news₁ T tv oe oi h tk, J i (v :: rest) m₁ news₁ → (∀ p ∈ news₁, p.1 ≠ e) → (∀ p ∈ news₁, p.1 ≠ it) → AllLt T ((e, oe) :: (it, oi) :: news₁) → Fr h₀ env.locals h m₁ → News h₀ env.locals h ((T, tupO [.int (i : Int) tv, v]) :: (e, oe) :: (it, oi) :: news₁) →
      wpAny (model prog w) A (assign (.Tuple elts x1 tpos) env (.ref T)) (fun _ s₂ => wpAny (model prog w) A (execs body env) (TurnIs s h₀ env.locals [(e, oe), (it, oi)] (J (i + 1) rest) Q) (fun _ _ => False) s₂) (fun _ _ => False) { s with heap := h, toks := tk })
    (done : ∀ h tk m₁ news₁, J items.length [] m₁ news₁ → Fr h₀ env.locals h m₁ → News h₀ env.locals h news₁ → Q .next { s with heap := h, toks := tk }) :
    wpAny (model prog w) A (pyIter (.ref e)) (fun it s₂ =>
      codeAny (model prog w) A (.forLoop (.Tuple elts x1 tpos) it body [] env) (fun r s' => match r with | .ok f => Q f s' | .error e => cameBackBy (model prog w) A env E e s') s₂) E s := by
  subst hl heo
  have hls : ∀ {i r m₁ n₁ h}, J i r m₁ n₁ → News h₀ env.locals h n₁ → h.IsList l items.toArray := fun j n => ⟨_, (n _ (hmem _ _ _ _ j)).1, rfl, k, rfl⟩
  have he0 := (N _ (.head _)).2.2
  have heL := (N _ (.head _)).2.1
  have hi0 := (N _ (.tail _ (.head _))).2.2
  have hiL := (N _ (.tail _ (.head _))).2.1
  refine wpAny_pyIter_enum (N _ (.head _)).1 ?_
  refine codeAny_forLoop_any
    (fun c s' => ∃ i h' tk m' news' old, s' = { s with heap := h', toks := tk } ∧ i ≤ items.length ∧ c = items.length - i ∧ h'.IsListIter it l i ∧ IsEnum h' e it (i : Int) old ∧
      Fr h₀ env.locals h' m' ∧ News h₀ env.locals h' news' ∧ (∀ p ∈ news', p.1 ≠ it) ∧ (∀ p ∈ news', p.1 ≠ e) ∧ J i (items.drop i) m' news') ?_ items.length
    ⟨0, s.heap, s.toks, m, news, .none, rfl, Nat.zero_le _, rfl, ⟨io, (N _ (.tail _ (.head _))).1, hio.1, hio.2⟩, (N _ (.head _)).1, F, newsSub N (fun p hp => .tail _ (.tail _ hp)), hoi, hoe, h0⟩
  rintro c s' ⟨i, h', tk, m', news', old, rfl, hi, rfl, hit, he, F', N', off, offe, hJ⟩
  have hl' := hls hJ N'
  by_cases hlt : i < items.length
  · refine wpAny_pyNext_enum_item he hit hl' (x := items[i]) (by simp [hlt]) hei fun h₁ he₁ hit₁ hT₁ hz₁ hs₁ => ?_
    refine wpAny_letOwnedTupleGo_enum he₁ fun h₂ he₂ hs₂ => ?_
    have F₁ := fr_same2 F' hi0 hiL he0 heL hs₁
    have N₁ := news_same2 N' off offe hs₁
    have F₂ := fr_same F₁ he0 heL hs₂
    have N₂ := news_same N₁ offe hs₂
    have hsz : h'.objs.size ≠ e := Nat.ne_of_gt (Heap.lt_size he)
    obtain ⟨oi, hoi₁, hc, hd⟩ := id hit₁
    have hoi₂ : h₂.get? it = some oi := (hs₂.2 it (Ne.symm hei)).trans hoi₁
    have hT₂ : h₂.get? h'.objs.size = some (tupO [.int (i : Int) tk, items[i]]) := (hs₂.2 _ hsz).trans hT₁
    have hitlt : it < h'.objs.size := by obtain ⟨o, ho, _⟩ := hit; exact Heap.lt_size ho
    have hdrop : items.drop i = items[i] :: items.drop (i + 1) := List.drop_eq_getElem_cons hlt
    rw [hdrop] at hJ
    refine wpAny_mono (turn i items[i] (items.drop (i + 1)) m' news' h'.objs.size tk (enumO it ((i : Int) + 1) items[i]) oi h₂ (tk + 1) hJ offe off ?_ F₂ (fun p hp => ?_)) (fun _ s₂ h₂ => wpAny_mono h₂ (fun f s₃ h₃ => ?_) fun _ _ x => x.elim) fun _ _ x => x.elim
    · exact ⟨Heap.lt_size he, hitlt, allLt_iff.mpr fun p hp => Heap.lt_size (N' p hp).1⟩
    · rcases List.mem_cons.mp hp with rfl | hp
      · refine ⟨hT₂, Nat.ne_of_gt F'.ns.lt, ?_⟩
        cases q : h₀.get? h'.objs.size with
        | none => rfl
        | some o => exact absurd (Heap.lt_size (F'.keep _ _ q)) (Nat.lt_irrefl _)
      rcases List.mem_cons.mp hp with rfl | hp
      · exact ⟨he₂, heL, he0⟩
      rcases List.mem_cons.mp hp with rfl | hp
      · exact ⟨hoi₂, hiL, hi0⟩
      · exact N₂ p hp
    · have fin : (∃ h' tk' m' news', s₃ = { s with heap := h', toks := tk' } ∧ Fr h₀ env.locals h' m' ∧ News h₀ env.locals h' ([(e, enumO it ((i : Int) + 1) items[i]), (it, oi)] ++ news') ∧ Apart [(e, enumO it ((i : Int) + 1) items[i]), (it, oi)] news' ∧ J (i + 1) (items.drop (i + 1)) m' news') → _ := fun ⟨h₂, tk₂, m₂, news₂, e₂, F₂, N₂, A₂, J₂⟩ =>
        (⟨items.length - (i + 1), by omega, i + 1, h₂, tk₂, m₂, news₂, items[i], e₂, hlt, rfl, ⟨oi, (N₂ _ (.tail _ (.head _))).1, hc, hd⟩, (N₂ _ (.head _)).1, F₂, newsSub N₂ (fun p hp => .tail _ (.tail _ hp)), (fun p hp => Ne.symm (A₂ _ (.tail _ (.head _)) p hp)), (fun p hp => Ne.symm (A₂ _ (.head _) p hp)), J₂⟩ :
          ∃ c, c < items.length - i ∧ ∃ i h' tk m' news' old, s₃ = { s with heap := h', toks := tk } ∧ i ≤ items.length ∧ c = items.length - i ∧ h'.IsListIter it l i ∧ IsEnum h' e it (i : Int) old ∧
            Fr h₀ env.locals h' m' ∧ News h₀ env.locals h' news' ∧ (∀ p ∈ news', p.1 ≠ it) ∧ (∀ p ∈ news', p.1 ≠ e) ∧ J i (items.drop i) m' news')
      cases f with
      | ret v => exact h₃
      | brk => exact h₃
      | next => exact fin h₃
      | cont => exact fin h₃
  · have hin : i = items.length := by omega
    subst hin
    refine wpAny_pyNext_enum_end hh he hit hl' (by simp) fun h₁ he₁ => wpAny_execs_nil ?_
    rw [List.drop_length] at hJ
    exact done h₁ tk m' news' hJ ⟨F'.ns.at' fun o e => he₁ _ o (Ne.symm hiL) e, fun b o e => he₁ b o (fun q => by rw [q, hi0] at e; cases e) (F'.keep b o e), F'.above⟩
      fun p hp => ⟨he₁ _ _ (off p hp) (N' p hp).1, (N' p hp).2⟩
end
noncomputable def ovr (ys : List Str) (u m : Str → Option Value) : Str → Option Value := fun y => if ys.contains y then u y else m y
noncomputable def SameOff (ys : List Str) (m m' : Str → Option Value) : Prop := ∀ y, ys.contains y = false → m' y = m y
theorem SameOff.refl {ys : List Str} {m : Str → Option Value} : SameOff ys m m := fun _ _ => rfl
theorem SameOff.eq {ys : List Str} {m m' : Str → Option Value} (h : SameOff ys m m') : m' = ovr ys m' m := by
  funext y
  unfold ovr
  cases e : ys.contains y with
  | true => rfl
  | false => exact h y e
theorem SameOff.ovr {ys : List Str} {u m : Str → Option Value} : SameOff ys m (Mine.ovr ys u m) := fun y h => by unfold Mine.ovr; rw [h]; rfl
theorem SameOff.store {ys : List Str} {m m' : Str → Option Value} {x : Str} {v : Option Value} (hx : ys.contains x = true) (h : SameOff ys m m') : SameOff ys m (fun y => if y = x then v else m' y) := fun y hy => by
  by_cases e : y = x
  · rw [e, hx] at hy; cases hy
  · show (if y = x then v else m' y) = m y
    rw [if_neg e]; exact h y hy
noncomputable def TurnIs2 (s : Shared) (h₀ : Heap) (L : Addr) (own : Led) (ys : List Str) (m : Str → Option Value) (Jn : Led → Prop) (Q : Flow → Shared → Prop) (f : Flow) (s₃ : Shared) : Prop :=
  match f with
  | .ret v => Q (.ret v) s₃
  | .brk => Q .next s₃
  | _ => ∃ h' tk' m' news', s₃ = { s with heap := h', toks := tk' } ∧ Fr h₀ L h' m' ∧ News h₀ L h' (own ++ news') ∧ Apart own news' ∧ SameOff ys m m' ∧ Jn news'
theorem TurnIs2.toIs {s s₃ : Shared} {h₀ : Heap} {L : Addr} {own : Led} {ys : List Str} {m : Str → Option Value} {Jn : Led → Prop} {Q : Flow → Shared → Prop} {f : Flow} (h : TurnIs2 s h₀ L own ys m Jn Q f s₃) :
    TurnIs s h₀ L own (fun m' n' => SameOff ys m m' ∧ Jn n') Q f s₃ := by
  cases f <;> exact h
theorem TurnIs2.next {s : Shared} {h₀ h' : Heap} {tk : Nat} {L : Addr} {own news' : Led} {ys : List Str} {m m' : Str → Option Value} {Jn : Led → Prop} {Q : Flow → Shared → Prop} (F : Fr h₀ L h' m') (N : News h₀ L h' (own ++ news')) (A : Apart own news') (S : SameOff ys m m') (J : Jn news') :
    TurnIs2 s h₀ L own ys m Jn Q .next { s with heap := h', toks := tk } := ⟨h', tk, m', news', rfl, F, N, A, S, J⟩
theorem apart_one {I : Addr} {o : Obj} {l : Led} (h : ∀ p ∈ l, p.1 ≠ I) : Apart [(I, o)] l := fun p hp q hq => by rw [List.mem_singleton.mp hp]; exact Ne.symm (h q hq)
theorem apart_two {I e : Addr} {o o' : Obj} {l : Led} (h : ∀ p ∈ l, p.1 ≠ I) (h' : ∀ p ∈ l, p.1 ≠ e) : Apart [(I, o), (e, o')] l := fun p hp q hq => by
  rcases List.mem_cons.mp hp with rfl | hp
  · exact Ne.symm (h q hq)
  · rw [List.mem_singleton.mp hp]; exact Ne.symm (h' q hq)
section
variable {prog : Program} {w : World} {A : Around} {E : Value → Shared → Prop} {s : Shared} {env : Env} {h₀ : Heap} {Q : Flow → Shared → Prop} {target : Expr} {body : List Stmt} {m : Str → Option Value} {news : Led}
end
inductive Lf where
  | rem (t : Str)
  | data (t : Str)
  | whil
  | wend
  | forr
  | next (k : Nat)
  | deff (n : Str)
  | fnend
  | goto
inductive T where
  | nil
  | leaf (v : Value) (l : Lf) (r : T)
  | ite (v : Value) (mk : Nat) (a b r : T)
noncomputable def Lf.word : Lf → Str
  | .rem _ => Str.ofString "REM"
  | .data _ => Str.ofString "DATA"
  | .whil => Str.ofString "WHILE"
  | .wend => Str.ofString "WEND"
  | .forr => Str.ofString "FOR"
  | .next _ => Str.ofString "NEXT"
  | .deff _ => Str.ofString "DEFLINES"
  | .fnend => Str.ofString "FNEND"
  | .goto => Str.ofString "GOTO"
noncomputable def Lf.tl (imm : Led) (rest : List Value) : Lf → Prop
  | .rem t => ∃ k, rest = [.str t k]
  | .data t => ∃ b n k2 k3, rest = [.ref b] ∧ (b, lstO [.str t k2, .str (Str.ofString "b") k3] n) ∈ imm
  | .next k => ∃ b n items, rest = [.ref b] ∧ (b, lstO items n) ∈ imm ∧ items.length = k
  | .deff n => ∃ k x, rest = [.str n k, x]
  | _ => True
theorem Lf.tl_mono {imm imm' : Led} {rest : List Value} {l : Lf} (hs : ∀ p ∈ imm, p ∈ imm') (h : l.tl imm rest) : l.tl imm' rest := by
  cases l <;> first
    | exact h
    | (obtain ⟨b, n, k2, k3, e, q⟩ := h; exact ⟨b, n, k2, k3, e, hs _ q⟩)
    | (obtain ⟨b, n, items, e, q, z⟩ := h; exact ⟨b, n, items, e, hs _ q, z⟩)
noncomputable def LeafAt (imm : Led) (v : Value) (l : Lf) : Prop := ∃ a k rest, v = .ref a ∧ (a, tupO (.str l.word k :: rest)) ∈ imm ∧ l.tl imm rest
theorem LeafAt.mono {imm imm' : Led} {v : Value} {l : Lf} (hs : ∀ p ∈ imm, p ∈ imm') (h : LeafAt imm v l) : LeafAt imm' v l := by
  obtain ⟨a, k, rest, e, q, z⟩ := h
  exact ⟨a, k, rest, e, hs _ q, Lf.tl_mono hs z⟩
inductive RepT (imm : Led) : List Value → T → Prop
  | nil : RepT imm [] .nil
  | leaf {v : Value} {l : Lf} {vs : List Value} {r : T} : LeafAt imm v l → RepT imm vs r → RepT imm (v :: vs) (.leaf v l r)
  | ite {o q x y : Addr} {k1 k2 k3 : Tok} {mk n1 n2 : Nat} {xs ys vs : List Value} {a b r : T} :
      (o, tupO [.str (Str.ofString "IF") k1, .ref q, .ref x, .ref y]) ∈ imm → (q, tupO [.str (Str.ofString "whole") k2, .int (mk : Int) k3]) ∈ imm → (x, lstO xs n1) ∈ imm → (y, lstO ys n2) ∈ imm →
      RepT imm xs a → RepT imm ys b → RepT imm vs r → RepT imm (.ref o :: vs) (.ite (.ref o) mk a b r)
theorem RepT.mono {imm imm' : Led} {vs : List Value} {t : T} (hs : ∀ p ∈ imm, p ∈ imm') (h : RepT imm vs t) : RepT imm' vs t := by
  induction h with
  | nil => exact .nil
  | leaf h _ ih => exact .leaf (h.mono hs) ih
  | ite a b c d _ _ _ i1 i2 i3 => exact .ite (hs _ a) (hs _ b) (hs _ c) (hs _ d) i1 i2 i3
noncomputable def T.size : T → Nat
  | .nil => 0
  | .leaf _ _ r => r.size + 1
  | .ite _ _ a b r => a.size + b.size + r.size + 2
noncomputable def T.len : T → Nat
  | .nil => 0
  | .leaf _ _ r => r.len + 1
  | .ite _ _ _ _ r => r.len + 1
noncomputable def T.hgt : T → Nat
  | .nil => 0
  | .leaf _ _ r => r.hgt
  | .ite _ _ a b r => max (max a.hgt b.hgt + 1) r.hgt
theorem RepT.length {imm : Led} {vs : List Value} {t : T} (h : RepT imm vs t) : vs.length = t.len := by
  induction h with
  | nil => rfl
  | leaf _ _ ih => simp [T.len, ih]
  | ite _ _ _ _ _ _ _ _ _ ih => simp [T.len, ih]
theorem T.len_le_size : ∀ t : T, t.len ≤ t.size
  | .nil => Nat.le_refl _
  | .leaf _ _ r => by have := r.len_le_size; simp only [T.len, T.size]; omega
  | .ite _ _ _ _ r => by have := r.len_le_size; simp only [T.len, T.size]; omega
inductive RK where
  | leaf (v : Value) (l : Lf)
  | ifnot (mk tg : Nat)
  | jump (tg : Nat)
noncomputable def RK.word : RK → Str
  | .leaf _ l => l.word
  | .ifnot _ _ => Str.ofString "IFNOT"
  | .jump _ => Str.ofString "JUMP"
noncomputable def RK.tl (imm : Led) (v : Value) (rest : List Value) : RK → Prop
  | .leaf v' l => v = v' ∧ l.tl imm rest
  | .ifnot mk tg => ∃ q k1 k2 k3, rest = [.ref q, .int (tg : Int) k1] ∧ (q, tupO [.str (Str.ofString "whole") k2, .int (mk : Int) k3]) ∈ imm
  | .jump tg => ∃ k, rest = [.int (tg : Int) k]
noncomputable def RowAt (imm : Led) (line : Int) (v : Value) (r : RK) : Prop :=
  ∃ b a t k rest, v = .ref b ∧ (b, tupO [.int line t, .ref a]) ∈ imm ∧ (a, tupO (.str r.word k :: rest)) ∈ imm ∧ r.tl imm (.ref a) rest
theorem RowAt.mono {imm imm' : Led} {line : Int} {v : Value} {r : RK} (hs : ∀ p ∈ imm, p ∈ imm') (h : RowAt imm line v r) : RowAt imm' line v r := by
  obtain ⟨b, a, t, k, rest, e, q, z, y⟩ := h
  refine ⟨b, a, t, k, rest, e, hs _ q, hs _ z, ?_⟩
  cases r with
  | leaf v' l => exact ⟨y.1, Lf.tl_mono hs y.2⟩
  | ifnot mk tg => obtain ⟨q, k1, k2, k3, e, z⟩ := y; exact ⟨q, k1, k2, k3, e, hs _ z⟩
  | jump tg => exact y
noncomputable def comp (n : Nat) : T → List RK
  | .nil => []
  | .leaf v l r => .leaf v l :: comp (n + 1) r
  | .ite _ mk a .nil r =>
    let ca := comp (n + 1) a
    .ifnot mk (n + 1 + ca.length) :: (ca ++ comp (n + 1 + ca.length) r)
  | .ite _ mk a b r =>
    let ca := comp (n + 1) a
    let cb := comp (n + 2 + ca.length) b
    .ifnot mk (n + 2 + ca.length) :: (ca ++ .jump (n + 2 + ca.length + cb.length) :: (cb ++ comp (n + 2 + ca.length + cb.length) r))
inductive RowsAt (imm : Led) (line : Int) : List Value → List RK → Prop
  | nil : RowsAt imm line [] []
  | cons {v : Value} {r : RK} {vs : List Value} {rs : List RK} : RowAt imm line v r → RowsAt imm line vs rs → RowsAt imm line (v :: vs) (r :: rs)
theorem RowsAt.mono {imm imm' : Led} {line : Int} {vs : List Value} {rs : List RK} (hs : ∀ p ∈ imm, p ∈ imm') (h : RowsAt imm line vs rs) : RowsAt imm' line vs rs := by
  induction h with
  | nil => exact .nil
  | cons h _ ih => exact .cons (h.mono hs) ih
theorem RowsAt.length {imm : Led} {line : Int} {vs : List Value} {rs : List RK} (h : RowsAt imm line vs rs) : vs.length = rs.length := by
  induction h with
  | nil => rfl
  | cons _ _ ih => simp [ih]
theorem RowsAt.append {imm : Led} {line : Int} {vs vs' : List Value} {rs rs' : List RK} (h : RowsAt imm line vs rs) (h' : RowsAt imm line vs' rs') : RowsAt imm line (vs ++ vs') (rs ++ rs') := by
  induction h with
  | nil => exact h'
  | cons h _ ih => exact .cons h ih
theorem comp_length_le : ∀ (t : T) (n : Nat), (comp n t).length ≤ t.size
  | .nil, _ => Nat.le_refl _
  | .leaf _ _ r, n => by have := comp_length_le r (n + 1); simp only [comp, T.size, List.length_cons]; omega
  | .ite _ mk a .nil r, n => by
    have h1 := comp_length_le a (n + 1)
    have h2 := comp_length_le r (n + 1 + (comp (n + 1) a).length)
    simp only [comp, T.size, List.length_cons, List.length_append]; omega
  | .ite _ mk a (.leaf v l b) r, n => by
    have h1 := comp_length_le a (n + 1)
    have h2 := comp_length_le (.leaf v l b) (n + 2 + (comp (n + 1) a).length)
    have h3 := comp_length_le r (n + 2 + (comp (n + 1) a).length + (comp (n + 2 + (comp (n + 1) a).length) (.leaf v l b)).length)
    rw [comp]
    · simp only [T.size, List.length_cons, List.length_append] at h2 ⊢; omega
    · exact fun h => nomatch h
  | .ite _ mk a (.ite v k x y b) r, n => by
    have h1 := comp_length_le a (n + 1)
    have h2 := comp_length_le (.ite v k x y b) (n + 2 + (comp (n + 1) a).length)
    have h3 := comp_length_le r (n + 2 + (comp (n + 1) a).length + (comp (n + 2 + (comp (n + 1) a).length) (.ite v k x y b)).length)
    rw [comp]
    · simp only [T.size, List.length_cons, List.length_append] at h2 ⊢; omega
    · exact fun h => nomatch h
section
variable {prog : Program} {w : World} {A : Around} {E : Value → Shared → Prop} {s : Shared} {h₀ : Heap} {L D : Addr} {m : Str → Option Value} {news news' : Led} {vs : List Value} {n : Nat} {k : Int} {t : Tok} {v : Value}
theorem list_set {Q : Unit → Shared → Prop} (F : Fr h₀ L s.heap m) (N : News h₀ L s.heap news) (U : Upd D (lstO vs n) (lstO (vs.set k.toNat v) n) news news') (h0 : 0 ≤ k) (h1 : k < vs.length) (hfit : k < 2 ^ 63)
    (h : ∀ h', Fr h₀ L h' m → News h₀ L h' news' → Q () { s with heap := h' }) : wpAny (model prog w) A (setItem (.ref D) (.int k t) v) Q E s := by
  obtain ⟨pre, post, rfl, rfl, a, b⟩ := U.split
  have z := N (D, lstO vs n) (List.mem_append.mpr (.inr (.head _)))
  refine ki_setAt z.1 h0 hfit (by rw [List.size_toArray]; exact h1) (h _ (F.change (Heap.SameBut.update ..) z.2.1 z.2.2) (ki_turn _ N a b ?_ ?_))
  · show vs.toArray.setIfInBounds k.toNat v = (vs.set k.toNat v).toArray
    apply Array.toList_inj.mp
    simp
  · simp
theorem list_item {value slice : Expr} {x : Value} {Q : Value → Shared → Prop} (N : News h₀ L s.heap news) (hm : (D, lstO vs n) ∈ news) (h0 : 0 ≤ k) (hfit : k < 2 ^ 63) (hx : vs[k.toNat]? = some x) (h : Q x s)
    (hs : subscripted slice false (.ref D) (.int k t) = operate [.ref D, .int k t] (getItem (.ref D) (.int k t)) := by with_unfolding_all rfl) (hg : ∀ r, letTemporaryGo value (.ref D) r = pure () := by intro _; with_unfolding_all rfl) :
    wpAny (model prog w) A (subscriptTail value slice (.ref D) (.int k t)) Q E s := item_listL ⟨_, (N _ hm).1, rfl, n, rfl⟩ h0 hfit hx h hs hg
theorem seqIndex_lt {k n : Nat} (h : k < n) : seqIndex? (k : Int) n = some k := by
  unfold seqIndex?
  have h1 : ¬ (k : Int) < 0 := by omega
  simp only [h1, if_false]
  simp only [Int.toNat_natCast]
  rw [if_pos (by simp; omega)]
theorem tup_at0 {value slice : Expr} {x : Value} {tail : List Value} {Q : Value → Shared → Prop} (N : News h₀ L s.heap news) (hm : (D, tupO (x :: tail)) ∈ news) (h : Q x s)
    (hs : subscripted slice false (.ref D) (.int 0 t) = operate [.ref D, .int 0 t] (getItem (.ref D) (.int 0 t)) := by with_unfolding_all rfl) (hg : ∀ r, letTemporaryGo value (.ref D) r = pure () := by intro _; with_unfolding_all rfl) :
    wpAny (model prog w) A (subscriptTail value slice (.ref D) (.int 0 t)) Q E s :=
  item_tupleL (j := 0) ⟨_, (N _ hm).1, rfl, 0, rfl⟩ (by decide) (by decide) (seqIndex_lt (Nat.succ_pos _)) rfl h hs hg
theorem tup_at1 {value slice : Expr} {x y : Value} {tail : List Value} {Q : Value → Shared → Prop} (N : News h₀ L s.heap news) (hm : (D, tupO (y :: x :: tail)) ∈ news) (h : Q x s)
    (hs : subscripted slice false (.ref D) (.int 1 t) = operate [.ref D, .int 1 t] (getItem (.ref D) (.int 1 t)) := by with_unfolding_all rfl) (hg : ∀ r, letTemporaryGo value (.ref D) r = pure () := by intro _; with_unfolding_all rfl) :
    wpAny (model prog w) A (subscriptTail value slice (.ref D) (.int 1 t)) Q E s :=
  item_tupleL (j := 1) ⟨_, (N _ hm).1, rfl, 0, rfl⟩ (by decide) (by decide) (seqIndex_lt (by simp)) rfl h hs hg
end
section
open Sem (wp)
noncomputable def DK (h h' : Heap) : Prop := ∀ (b : Addr) (o : Obj), h.objs[b]? = some o → ∃ o' : Obj, h'.objs[b]? = some o' ∧ o'.dict = o.dict
theorem DK.refl (h : Heap) : DK h h := fun _ o e => ⟨o, e, rfl⟩
theorem DK.trans {h h₁ h₂ : Heap} (x : DK h h₁) (y : DK h₁ h₂) : DK h h₂ := fun b o e => by
  obtain ⟨o₁, e₁, q₁⟩ := x b o e
  obtain ⟨o₂, e₂, q₂⟩ := y b o₁ e₁
  exact ⟨o₂, e₂, q₂.trans q₁⟩
theorem DK.push (h : Heap) (o : Obj) : DK h (h.push o) := fun b o' e => by
  refine ⟨o', ?_, rfl⟩
  have := (Array.getElem?_eq_some_iff.mp e).1
  show (h.objs.push o)[b]? = some o'
  rw [Array.getElem?_push, if_neg (Nat.ne_of_lt this)]; exact e
theorem DK.update (h : Heap) (a : Addr) {f : Obj → Obj} (hf : ∀ o, (f o).dict = o.dict) : DK h (h.update a f) := fun b o e => by
  show ∃ o', (h.objs.modify a f)[b]? = some o' ∧ _
  rw [Array.getElem?_modify]
  by_cases q : a = b
  · rw [if_pos q, e]; exact ⟨_, rfl, hf o⟩
  · rw [if_neg q, e]; exact ⟨_, rfl, rfl⟩
noncomputable def KD {α : Type} (M : Model) (Γ : Ctx) (t : Sem α) : Prop := ∀ (Q : α → Pos → Shared → Prop) (E : Value → Pos → Shared → Prop) (p : Pos) (s : Shared), wp M Γ t Q E p s → wp M Γ t (fun a p' s' => Q a p' s' ∧ DK s.heap s'.heap) E p s
variable {α β : Type} {M : Model} {Γ : Ctx}
theorem KD.pure (a : α) : KD M Γ (Pure.pure a) := fun _ _ _ s h => ⟨h, DK.refl s.heap⟩
theorem KD.unsupported (x : String) : KD M Γ (PySem.unsupported x : Sem α) := fun _ _ _ _ h => h.elim
theorem KD.load (a : Addr) : KD M Γ (PySem.load a) := fun Q E p s h => by
  rw [Sem.wp_cmd_load] at h ⊢
  obtain ⟨o, e, q⟩ := h
  exact ⟨o, e, q, DK.refl _⟩
theorem KD.bind {m : Sem α} {f : α → Sem β} (hm : KD M Γ m) (hf : ∀ a, KD M Γ (f a)) : KD M Γ (m >>= f) := fun Q E p s h => by
  rw [Sem.wp_bind'] at h ⊢
  refine Sem.wp_mono M Γ m (fun a p' s' h' => ?_) (fun _ _ _ x => x) p s (hm _ _ p s h)
  refine Sem.wp_mono M Γ (f a) (fun b p'' s'' h'' => ⟨h''.1, DK.trans h'.2 h''.2⟩) (fun _ _ _ x => x) p' s' (hf a _ _ p' s' h'.1)
theorem KD.ite {c : Prop} [Decidable c] {a b : Sem α} (ha : KD M Γ a) (hb : KD M Γ b) : KD M Γ (if c then a else b) := by split <;> assumption
theorem KD.update (a : Addr) {f : Obj → Obj} (hf : ∀ o, (f o).dict = o.dict) : KD M Γ (PySem.update a f) := fun Q E p s h => by
  rw [Sem.wp_cmd_update] at h ⊢
  exact ⟨h.1, h.2, DK.update _ _ hf⟩
theorem KD.alloc (o : Obj) : KD M Γ (PySem.alloc o) := fun Q E p s h => by
  rw [Sem.wp_cmd_alloc] at h ⊢
  exact ⟨h, DK.push _ _⟩
theorem KD.stack : KD M Γ PySem.stack := fun _ _ _ _ h => ⟨h, DK.refl _⟩
theorem KD.loadPart (a : Addr) (part : Option Value) : KD M Γ (PySem.loadPart a part) := fun Q E p s h => by
  rw [Sem.wp_cmd_loadPart] at h ⊢
  obtain ⟨o, e, q⟩ := h
  exact ⟨o, e, q, DK.refl _⟩
theorem KD.fieldsOf (v : Value) : KD M Γ (PySem.fieldsOf v) := by
  unfold PySem.fieldsOf
  cases v <;> first
    | exact .unsupported _
    | (refine .bind (.load _) fun o => ?_
       split
       · exact .pure _
       · exact .unsupported _)
theorem KD.field (v : Value) (i : Nat) : KD M Γ (PySem.field v i) := by
  unfold PySem.field
  refine .bind (.fieldsOf v) fun vs => ?_
  split
  · exact .pure _
  · exact .unsupported _
theorem dict_mapFields (f : Array Value → Array Value) (o : Obj) : (o.mapFields f).dict = o.dict := by
  obtain ⟨c, d, dt, sl⟩ := o
  cases dt <;> rfl
theorem KD.setField (v : Value) (i : Nat) (x : Value) : KD M Γ (PySem.setField v i x) := by
  unfold PySem.setField
  cases v <;> first
    | exact .unsupported _
    | (unfold PySem.updateField
       refine .bind (.load _) fun o => ?_
       split
       · exact .ite (.update _ fun o => dict_mapFields _ o) (.unsupported _)
       · exact .unsupported _)
theorem KD.newTraceback (vs : List Value) : KD M Γ (PySem.newFields "traceback" vs) := by
  unfold PySem.newFields PySem.newObj PySem.newObjAsIs
  dsimp only
  split
  · exact .unsupported _
  · exact .bind (.alloc _) fun a => .pure _
theorem KD.keptBack (env : Env) (l : List Env) (b : Bool) : KD M Γ (PySem.keptBack env b l) := by
  unfold PySem.keptBack
  split
  · split
    · exact .pure _
    · unfold PySem.underTheClaimsCaller
      refine .bind (.bind .stack fun _ => .pure _) fun b => ?_
      split <;> exact .pure _
  · exact .pure _
theorem KD.readyFrames : ∀ l : List Env, KD M Γ (PySem.readyFrames l)
  | [] => by rw [PySem.readyFrames]; exact .pure _
  | env :: outer => by
    rw [PySem.readyFrames]
    split
    · refine .bind (.load _) fun o => ?_
      split
      · exact .pure _
      · refine .bind ?_ fun b => .bind (.keptBack _ _ _) fun v => .bind (.update _ fun _ => rfl) fun _ => KD.readyFrames outer
        unfold PySem.behindIsImport
        split
        · exact .pure _
        · split
          · exact .pure _
          · exact .bind (.field _ _) fun _ => .pure _
    · exact .unsupported _
theorem KD.frameOf (env : Env) : KD M Γ (PySem.frameOf env) := by
  unfold PySem.frameOf PySem.frameEnvs
  refine .bind (.bind .stack fun l => .pure _) fun l => ?_
  unfold PySem.frameObject
  refine .bind ?_ fun o => ?_
  · split
    · exact .pure _
    · exact .bind (.readyFrames _) fun _ => .pure _
  · split
    · exact .pure _
    · exact .unsupported _
theorem KD.setFlight (e : Value) (f : Option Addr) : KD M Γ (PySem.setFlight e f) := by
  unfold PySem.setFlight
  refine .bind (.field _ _) fun v => ?_
  split
  · exact .setField _ _ _
  · exact .pure _
theorem KD.entryPlaceOf (f : Addr) (b : Bool) : KD M Γ (PySem.entryPlaceOf f b) := by
  unfold PySem.entryPlaceOf
  refine .bind .stack fun l => ?_
  split <;> exact .pure _
theorem KD.noteFrame (e : Value) (env : Env) : KD M Γ (PySem.noteFrame e env) := by
  unfold PySem.noteFrame
  split
  · refine .bind (.field _ _) fun v => ?_
    have last : ∀ v f, KD M Γ (do PySem.setField e 1 (← EntryCells.newEntry v (← PySem.frameOf env) .none (rawInt f) .none (← PySem.entryPlaceOf f (v != .none)))) := fun v f =>
      .bind (.frameOf env) fun _ => .bind (.entryPlaceOf _ _) fun _ => .bind (.newTraceback _) fun _ => .setField _ _ _
    split
    · refine .bind (.field _ _) fun x => ?_
      split
      · exact .pure _
      · exact .bind (.setField _ _ _) fun _ => last _ _
    · exact last _ _
  · exact .unsupported _
theorem KD.leaving (e : Value) (env : Env) : KD M Γ (PySem.leaving env e) := by
  unfold PySem.leaving
  exact .bind (.noteFrame _ _) fun _ => .setFlight _ _
theorem wpAny_KD {A : Around} {E : Value → Shared → Prop} {s : Shared} {t : Sem α} {Q : α → Shared → Prop} (k : ∀ Γ, KD M Γ t) (h : wpAny M A t Q E s) : wpAny M A t (fun a s' => Q a s' ∧ DK s.heap s'.heap) E s :=
  fun Γ p hΓ => k Γ _ _ p s (h Γ p hΓ)
end
section
open Sem (wp)
noncomputable abbrev bmE : List Value := [.type "Exception", .type "BaseException", .type "object"]
variable {prog : Program} {w : World} {A : Around} {E : Value → Shared → Prop} {h : Heap} {g : Array GenState} {d : Drawn} {t : Nat} {os : OsState}
variable {nm q : Str} {C N x so : Addr} {bs : List Value} {hdct : Bool} {sn : List Str} {sub : List Value} {ab : Bool} {col : Option Bool} {dd : Option Addr} {k0 k1 k2 k3 k5 : Option Value} {newId : String} {mN mA : Str → Option Value} {name : Str} {v : Value}
theorem wrap_lookup : typeLookup (.type "wrapper_descriptor") "__get__" = pure (some (.builtin "wrapper_descriptor.__get__")) := by rw [typeLookup_type, builtinLookup_eq_fast]; kernel_rfl
theorem wrap_type : typeOf (.builtin "Exception.__init__") = (pure (.type "wrapper_descriptor") : Sem Value) := by kernel_rfl
theorem own_exc_init : classOwn (.type "Exception") "__init__" = (pure (some (.builtin "Exception.__init__")) : Sem _) := by
  show (pure (builtinOwn "Exception" "__init__") : Sem (Option Value)) = _
  rw [builtinOwn_eq_fast]; kernel_rfl
theorem slot_wrap : Slot "wrapper_descriptor" "__get__" "wrapper_descriptor.__get__" := .of (owner := "wrapper_descriptor") (n := "__get__") wrap_lookup (by decide +kernel) (by decide +kernel) (by decide +kernel)
  (by first | exact .inl (by decide +kernel) | exact .inr (by decide +kernel)) (by rw [isSubtype_type]; kernel_rfl)
theorem entry_wrap : entryFor table "wrapper_descriptor.__get__" = some Builtin.«wrapper_descriptor.__get__» := entryFor_of_tree (by kernel_rfl)
theorem args_wrap (a b c : Value) : argsOk "wrapper_descriptor.__get__" ⟨[a, b, c], []⟩ := by unfold argsOk; kernel_rfl
set_option maxRecDepth 100000 in
theorem owner_wrap : (".".intercalate ("Exception.__init__".cutAt '.').dropLast) = "Exception" := by decide +kernel
set_option maxRecDepth 100000 in
theorem super_init_ga {oe : Obj} {tk : Tok} {Q : Fin → Shared → Prop} (hC : h.get? C = some (excClassObj nm q C N bs bmE hdct sn sub ab col dd k0 k1 k2 k3 k5 newId))
    (hso : h.get? so = some (ks_superObj C x C)) (hno : Looks (model prog w) h (opaqueClassAbove (.ref C)) none) (hx : h.get? x = some oe) (hc : oe.cls = .ref C) (hxC : x ≠ C)
    (hq : Q (.done (.ret (.ref h.objs.size))) ⟨h.push { cls := .type "method-wrapper", data := .fields #[.builtin "Exception.__init__", .ref x] }, g, d, t, os⟩) :
    wpAny (model prog w) A (Builtin.«super.__getattribute__» ⟨[.ref so, .str "__init__" tk], []⟩) Q E ⟨h, g, d, t, os⟩ := by
  have hne : (Value.ref x == Value.ref C) = false := by simp [hxC]
  have hn : (("__init__" : Str) == ("__class__" : Str)) = false := by decide
  have hdt : (ks_superObj C x C).data = .fields #[.ref C, .ref x, .ref C] := rfl
  have f0 : (#[.ref C, .ref x, .ref C] : Array Value)[0]? = some (.ref C) := rfl
  have f1 : (#[.ref C, .ref x, .ref C] : Array Value)[1]? = some (.ref x) := rfl
  have f2 : (#[.ref C, .ref x, .ref C] : Array Value)[2]? = some (.ref C) := rfl
  unfold Builtin.«super.__getattribute__»
  repeat (first
    | (with_reducible refine wpAny_field hso hdt f0 ?_) | (with_reducible refine wpAny_field hso hdt f1 ?_) | (with_reducible refine wpAny_field hso hdt f2 ?_)
    | (with_reducible refine ks_wpAny_notOpaque hno ?_)
    | (with_reducible refine wpAny_mroOf_exc hC ?_)
    | (simp only [hn, hne, Bool.or_false, Bool.false_eq_true, if_false])
    | wp_step
    | dsimp only)
  have hl : List.drop 1 (List.dropWhile (fun x => x != Value.ref C) (Value.ref C :: bmE)) = bmE := by simp
  rw [hl]
  repeat (first
    | (with_reducible refine wpAny_of_eq own_exc_init ?_)
    | (with_reducible refine wpAny_of_eq wrap_type ?_)
    | (with_reducible refine wpAny_of_eq wrap_lookup ?_)
    | wp_step
    | dsimp only)
  have hT : (⟨h, g, d, t, os⟩ : Shared).TypeIs (.builtin "Exception.__init__") "wrapper_descriptor" := wrap_type
  refine codeAny_call_builtin slot_wrap.plain entry_wrap (slot_wrap.check _ _ _ _ _ _ _ _ hT (args_wrap _ _ _) ?_)
  have hcB : (Value.ref C :: bmE).contains (.type (".".intercalate ("Exception.__init__".cutAt '.').dropLast)) = true := by
    rw [owner_wrap, List.contains_cons, List.contains_cons]; simp
  unfold Builtin.«wrapper_descriptor.__get__»
  repeat (first | (with_reducible refine wpAny_loadPart_at hx ?_; rw [hc]) | (with_reducible refine wpAny_isSubtype_exc hC ?_; rw [hcB]) | wp_step)
  exact hq
theorem super_init_method {oe : Obj} {pl : Sem Bool} {Q : Value × List Value → Shared → Prop} (hC : h.get? C = some (excClassObj nm q C N bs bmE hdct sn sub ab col dd k0 k1 k2 k3 k5 newId))
    (hso : h.get? so = some (ks_superObj C x C)) (hno : Looks (model prog w) h (opaqueClassAbove (.ref C)) none) (hx : h.get? x = some oe) (hc : oe.cls = .ref C) (hxC : x ≠ C)
    (hq : Q (.ref h.objs.size, []) ⟨h.push { cls := .type "method-wrapper", data := .fields #[.builtin "Exception.__init__", .ref x] }, g, d, t + 1, os⟩) :
    wpAny (model prog w) A (getMethod (.ref so) "__init__" pl) Q E ⟨h, g, d, t, os⟩ := by
  have hT : ∀ t', (⟨h, g, d, t', os⟩ : Shared).TypeIs (.ref so) "super" := fun _ => ⟨_, hso, rfl⟩
  have go : wpAny (model prog w) A (call (.builtin "super.__getattribute__") [.ref so, .str "__init__" t]) (fun r s' => r = .ref h.objs.size ∧ s' = ⟨h.push { cls := .type "method-wrapper", data := .fields #[.builtin "Exception.__init__", .ref x] }, g, d, t + 1, os⟩) (fun _ _ => False) ⟨h, g, d, t + 1, os⟩ :=
    wpAny_call_entry F.ks_slot_super_ga (hT _) F.ks_entry_super_ga (super_init_ga hC hso hno hx hc hxC ⟨_, rfl, rfl, rfl⟩) (F.ks_gaArgs_super _ _)
  unfold getMethod
  refine wpAny_bind (wpAny_specialOf (hT _) F.ks_slot_super_ga.lookup ?_)
  dsimp only
  rw [if_pos F.ks_canon_super_ga]
  unfold getAttr getAttrBy
  refine wpAny_bind (wpAny_bind (wpAny_mkText (wpAny_holding (wpAny_bind (wpAny_typeOf (hT _) (wpAny_bind (wpAny_of_eq F.ks_slot_super_ga.lookup ?_)))))))
  dsimp only
  unfold getAttrByItsOwn hookBefore callGetattribute boundAndCalled
  refine wpAny_bind (wpAny_of_eq (a := none) rfl ?_)
  dsimp only
  refine wpAny_bind (wpAny_attempt (wpAny_holding (wpAny_bind (wpAny_of_eq (F.ks_slot_super_ga.bind _) ?_))))
  refine wpAny_mono go (fun v s' hv => ?_) fun _ _ z => z.elim
  obtain ⟨rfl, rfl⟩ := hv
  exact wpAny_pure (wpAny_pure hq)
noncomputable abbrev wrapO (x : Addr) : Obj := { cls := .type "method-wrapper", data := .fields #[.builtin "Exception.__init__", .ref x] }
noncomputable abbrev excO (C t0 : Addr) : Obj := { cls := .ref C, data := .fields #[.ref t0, .none, .none, .none, .bool false, .none] }
theorem super_init_call {qq t0 : Addr} {v : Value} {Q : Value → Shared → Prop} (hC : h.get? C = some (excClassObj nm q C N bs bmE hdct sn sub ab col dd k0 k1 k2 k3 k5 newId))
    (hqq : h.get? qq = some (wrapO x)) (hx : h.get? x = some (excO C t0))
    (hq : Q .none ⟨(h.push (tupO [v])).update x (Obj.mapFields (·.setIfInBounds 0 (.ref h.objs.size))), g, d, t, os⟩) :
    wpAny (model prog w) A (call (.ref qq) [v]) Q E ⟨h, g, d, t, os⟩ := by
  refine wpAny_call (codeAny_of_tree ?_)
  show wpAny _ A.in1 (callAny (.ref qq) _) _ _ _
  unfold callAny
  refine wpAny_bind (wpAny_load hqq ?_)
  dsimp only
  unfold checkBoundCall
  repeat (first | (with_reducible refine wpAny_loadPart_at hx ?_) | (with_reducible refine wpAny_isSubtype_exc hC ?_) | (with_reducible refine wpAny_load hC ?_) | wp_step | dsimp only)
  refine ⟨Code.quiet_builtin _ (by decide +kernel), codeAny_builtin PySem.F.excBase_Exception.initEntry ?_⟩
  have hx₁ : (h.push { cls := .type "tuple", data := .seq [v].toArray }).get? x = some (excO C t0) := Heap.get?_push_of_some _ hx
  unfold Builtin.«BaseException.__init__»
  repeat (first | (with_reducible refine wpAny_newObj_type ?_ (by size_fits)) | (with_reducible refine wpAny_loadPart_at hx₁ ?_) | wp_step | dsimp only)
  exact hq
end
section
open Builtin Builtin.ObjectAttr
variable {prog : Program} {w : World} {A : Around} {E : Value → Shared → Prop} {h : Heap} {g : Array GenState} {d : Drawn} {t : Nat} {os : OsState}
variable {nm q : Str} {C N x : Addr} {bs : List Value} {hdct : Bool} {sn : List Str} {sub : List Value} {ab : Bool} {col : Option Bool} {dd : Option Addr} {k0 k1 k2 k3 k5 : Option Value} {newId : String} {mN mA : Str → Option Value} {name : Str} {v : Value}
theorem store_dict0 {D : Addr} {tk : Tok} {Q : Fin → Shared → Prop} (hD : h.get? D = some { cls := .type "dict", data := .dict #[] })
    (hq : ∀ h' tk' od, h'.get? D = some od → h'.Ns1 D (fun y => if y = name then some v else none) → (∀ b, b ≠ D → h'.get? b = h.get? b) → Q (.done (.ret .none)) ⟨h', g, d, tk', os⟩) :
    wpAny (model prog w) A (storeInDict D (.str name tk) name v) Q E ⟨h, g, d, t, os⟩ := by
  unfold storeInDict newKeyGuard
  have hnd : h.Ns D (fun _ => none) := ⟨_, #[], _, hD, rfl, fun e he => absurd he (by simp), fun _ => rfl⟩
  refine wpAny_bind (wpAny_pure (wpAny_bind (wpAny_nsSet1 (Heap.Ns1.of_empty hnd) fun h' hn' hs => ?_)))
  obtain ⟨oD, esD, epD, hoD, hdD, hcD⟩ := hn'.count (Within.cons name v Within.nil)
  refine wpAny_bind (wpAny_lookBehind hoD (by rw [hdD]; exact pastItsLine_dict (Nat.le_trans hcD (by rw [List.length_cons, List.length_nil, sizeLine_eq]; omega))) ?_)
  exact wpAny_pure (hq h' _ oD hoD hn' hs.2)
theorem store_first {vs : Array Value} {bm : List Value} {B sa owner : String} {Q : Unit → Shared → Prop} (SF : StoreFacts B bm sa owner)
    (hC : h.get? C = some (excClassObj nm q C N bs bm true sn sub ab col dd k0 k1 k2 k3 k5 newId)) (hn : h.Ns N mN) (hns : mN "__setattr__" = none) (hna : mN name = none)
    (hB : typeLookup (.type B) name = pure none) (hx : h.get? x = some { cls := .ref C, data := .fields vs })
    (hq : ∀ h' tk' od, h'.get? x = some { cls := .ref C, dict := some h.objs.size, data := .fields vs } → h'.get? h.objs.size = some od → h'.Ns1 h.objs.size (fun y => if y = name then some v else none) →
      (∀ b o, b ≠ x → h.get? b = some o → h'.get? b = some o) → Q () ⟨h', g, d, tk', os⟩) :
    wpAny (model prog w) A (setAttr (.ref x) name v) Q E ⟨h, g, d, t, os⟩ := by
  have f3 := SF.slot.bind (.ref x)
  unfold setAttr callSpecial? specialOf
  repeat (any_goals (first | assumption | (with_reducible refine wpAny_loadPart_at hx ?_) | (with_reducible refine wpAny_typeLookup_exc hC hn SF.mro SF.slot.lookup ?_; rw [hns]) | wp_step))
  refine codeAny_call_builtin SF.slot.plain SF.entry (wpAny_check_sa SF hC hx rfl ?_)
  have hpass := SF.passes (.ref x)
  unfold Builtin.«object.__setattr__»
  repeat (first | rw [refuse_eq] | (rw [refuseLoop_ref, hpass]) | (with_reducible refine wpAny_bind (store_dict0 ?_ ?_)) | (with_reducible refine store_dict0 ?_ ?_) | (with_reducible refine wpAny_loadPart_at hx ?_) | with_reducible refine wpAny_mroOf_exc hC ?_ | (with_reducible refine wpAny_typeLookup_exc hC hn SF.mro hB ?_; rw [hna]) | wp_step)
  · exact (Heap.get?_update_ne _ _ _ _ (Nat.ne_of_lt (Heap.lt_size hx)).symm).trans (Heap.get?_push_at rfl rfl)
  · intro h' tk' od e1 e2 e3
    have hx' := (e3 x (Nat.ne_of_lt (Heap.lt_size hx))).trans (Heap.get?_update_self _ (Heap.get?_push_of_some _ hx) rfl)
    exact wpAny_pure (wpAny_pure (hq h' tk' od hx' e1 e2 fun b o hb e => (e3 b (Nat.ne_of_lt (Heap.lt_size e))).trans ((Heap.get?_update_ne _ _ _ _ hb).trans (Heap.get?_push_of_some _ e))))
end
section
open Builtin Builtin.ObjectAttr
variable {prog : Program} {w : World} {A : Around} {E : Value → Shared → Prop} {h : Heap} {g : Array GenState} {d : Drawn} {t : Nat} {os : OsState}
variable {nm q : Str} {C N x dx : Addr} {bs bm : List Value} {sn : List Str} {sub : List Value} {ab : Bool} {col : Option Bool} {dd : Option Addr} {k0 k1 k2 k3 k5 : Option Value} {B newId : String} {mN mA : Str → Option Value} {name : Str} {v : Value} {vs : Array Value} {ox : Obj} {sl : Array (Option Value)}
theorem load_exc_entry {tk : Tok} {Q : Fin → Shared → Prop} (FB : ExcAttrBase B bm)
    (hC : h.get? C = some (excClassObj nm q C N bs bm true sn sub ab col dd k0 k1 k2 k3 k5 newId)) (hn : h.Ns N mN) (hna : mN name = none) (hB : typeLookup (.type B) name = pure none)
    (hx : h.get? x = some { cls := .ref C, dict := some dx, data := .fields vs, slots := sl }) (hns : h.Ns dx mA) (hv : mA name = some v) (hq : Q (.done (.ret v)) ⟨h, g, d, t, os⟩) :
    wpAny (model prog w) A (Builtin.«object.__getattribute__» ⟨[.ref x, .str name tk], []⟩) Q E ⟨h, g, d, t, os⟩ := by
  unfold Builtin.«object.__getattribute__»
  repeat (first | (with_reducible refine wpAny_loadPart_at hx ?_) | (with_reducible refine wpAny_typeLookup_exc hC hn FB.mro hB ?_; rw [hna]) | (with_reducible refine wpAny_nsGet hns ?_; rw [hv]) | with_reducible refine wpAny_loadPart_at hC ?_ | wp_step)
  exact hq
theorem check_ga_exc {nameV : Value} {Q : Unit → Shared → Prop} (FB : ExcAttrBase B bm) (hC : h.get? C = some (excClassObj nm q C N bs bm true sn sub ab col dd k0 k1 k2 k3 k5 newId))
    (hx : h.get? x = some ox) (hc : ox.cls = .ref C) (hq : Q () ⟨h, g, d, t, os⟩) : wpAny (model prog w) A (checkBuiltinCall "BaseException.__getattribute__" ⟨[.ref x, nameV], []⟩) Q E ⟨h, g, d, t, os⟩ := by
  have hk : builtinKind "BaseException.__getattribute__" = some .slot := by decide +kernel
  have hsplit : splitId "BaseException.__getattribute__" = some ("BaseException", "__getattribute__") := by decide +kernel
  have hcB : (Value.ref C :: bm).contains (.type "BaseException") = true := by rw [List.contains_cons, FB.hasBase]; rfl
  have ha := PySem.F.args_bexc_ga (.ref x) nameV
  simp only [checkBuiltinCall, hk, hsplit]
  refine wpAny_bind ?_
  unfold isInstance
  repeat (first | (with_reducible refine wpAny_loadPart_at hx ?_; rw [hc]) | (with_reducible refine wpAny_isSubtype_exc hC ?_; rw [hcB]) | wp_step)
  exact hq
theorem load_exc {expr : Bool} {Q : Value → Shared → Prop} (FB : ExcAttrBase B bm)
    (hC : h.get? C = some (excClassObj nm q C N bs bm true sn sub ab col dd k0 k1 k2 k3 k5 newId)) (hn : h.Ns N mN) (hng : mN "__getattribute__" = none) (hnh : mN "__getattr__" = none) (hna : mN name = none) (hB : typeLookup (.type B) name = pure none)
    (hx : h.get? x = some { cls := .ref C, dict := some dx, data := .fields vs, slots := sl }) (hns : h.Ns dx mA) (hv : mA name = some v) (hh : handedOut v = pure v) (hq : Q v ⟨h, g, d, t + 1, os⟩) :
    wpAny (model prog w) A (getAttr (.ref x) name expr) Q E ⟨h, g, d, t, os⟩ := by
  have f3 := FB.ga.bind (.ref x)
  have hx2 : (Value.builtin "BaseException.__getattribute__" == Value.builtin "object.__getattribute__") = false := by decide +kernel
  have hx1 : (onTheHeap (Value.ref C) && Value.builtin "BaseException.__getattribute__" == Value.builtin "object.__getattribute__") = false := by rw [hx2]; rfl
  have hx0 : (expr && onTheHeap (Value.builtin "BaseException.__getattribute__")) = false := by cases expr <;> rfl
  unfold getAttr getAttrBy
  repeat (any_goals (first | assumption | (with_reducible refine wpAny_loadPart_at hx ?_) | (with_reducible refine wpAny_typeLookup_exc hC hn FB.mro FB.ga.lookup ?_; rw [hng]) | (with_reducible refine wpAny_typeLookup_exc hC hn FB.mro FB.noGetattr ?_; rw [hnh]) | wp_step))
  refine codeAny_call_builtin FB.ga.plain PySem.F.entry_bexc_ga (check_ga_exc FB hC hx rfl (load_exc_entry FB hC hn hna hB hx hns hv ?_))
  show wpAny _ _ (handedOut v) _ _ _
  rw [hh]
  exact wpAny_pure hq
end
section
structure BexCls (h : Heap) (C fI : Addr) : Prop where
  out : ∃ nm q N bs sn sub ab col dd k0 k1 k2 k3 k5 mN, h.get? C = some (excClassObj nm q C N bs bmE true sn sub ab col dd k0 k1 k2 k3 k5 "Exception.__new__") ∧ h.Ns N mN ∧ mN "__init__" = some (.ref fI) ∧
    (mN "__setattr__" = none ∧ mN "__getattribute__" = none ∧ mN "__getattr__" = none ∧ mN "code" = none ∧ mN "told" = none)
theorem nsMap_some_of_in {K : Frag} {h : Heap} {N : Addr} {x : Str} {v : Value} (X : K.In h) (e : nsOkIn K N = true) (q : nsIn K N x = some (some v)) : h.nsMap N x = some v := by
  have G : h.Ns N (h.nsMap N) := .of_isNs (isNs_of_in X e)
  obtain ⟨o, es, ep, ho, hd, _, hf⟩ := G
  unfold nsIn at q
  split at q
  · rename_i hl
    have := X _ _ hl
    rw [ho] at this
    cases this
    cases hd
    split at q
    · rename_i en he
      cases q
      rw [← hf]
      unfold nsFind findBy
      rw [← Array.find?_toList, he]
      rfl
    · split at q <;> cases q
  · cases q
theorem bex_34 {P : Params} {h : Heap} (X : (Mine.K P).In h) : BexCls h 34 31 := by
  have c := X 34 _ rfl
  refine ⟨_, _, _, _, _, _, _, _, _, _, _, _, _, _, h.nsMap _, c, .of_isNs (isNs_of_in X ?_), nsMap_some_of_in X ?_ ?_, nsMap_none_of_in X ?_ ?_, nsMap_none_of_in X ?_ ?_, nsMap_none_of_in X ?_ ?_, nsMap_none_of_in X ?_ ?_, nsMap_none_of_in X ?_ ?_⟩ <;> kernel_rfl
theorem lk_code : typeLookup (.type "Exception") "code" = (pure none : Sem _) := by rw [typeLookup_type, builtinLookup_eq_fast]; kernel_rfl
theorem lk_told : typeLookup (.type "Exception") "told" = (pure none : Sem _) := by rw [typeLookup_type, builtinLookup_eq_fast]; kernel_rfl
end
section
variable {prog : Program} {w : World} {A : Around} {E : Value → Shared → Prop} {s : Shared} {h₀ : Heap} {L : Addr} {m : Str → Option Value} {news : Led} {x t d so q : Addr} {v : Value} {od : Obj}
noncomputable def NsObj (od : Obj) (mA : Str → Option Value) : Prop := ∀ (h : Heap) (d : Addr), h.get? d = some od → h.Ns1 d mA
theorem nsObj_of {h : Heap} {d : Addr} {mA : Str → Option Value} (n : h.Ns1 d mA) (e : h.get? d = some od) : NsObj od mA := by
  obtain ⟨o, es, ep, ho, r⟩ := n
  rw [e] at ho
  cases ho
  exact fun h' d' e' => ⟨_, es, ep, e', r⟩
noncomputable abbrev bexO (d t : Addr) : Obj := { cls := .ref 34, dict := some d, data := .fields #[.ref t, .none, .none, .none, .bool false, .none] }
theorem led_upd {h h' : Heap} {o' : Obj} (N : News h₀ L h ((x, od) :: news)) (off : ∀ p ∈ news, p.1 ≠ x) (hx : h'.get? x = some o') (k : ∀ b o, b ≠ x → h.get? b = some o → h'.get? b = some o) : News h₀ L h' ((x, o') :: news) := fun p hp => by
  rcases List.mem_cons.mp hp with rfl | hp
  · exact ⟨hx, (N _ (.head _)).2⟩
  · exact ⟨k _ _ (off p hp) (N p (.tail _ hp)).1, (N p (.tail _ hp)).2⟩
theorem fr_upd {h h' : Heap} (F : Fr h₀ L h m) (N : News h₀ L h ((x, od) :: news)) (k : ∀ b o, b ≠ x → h.get? b = some o → h'.get? b = some o) : Fr h₀ L h' m :=
  fr_same2 F (N _ (.head _)).2.2 (N _ (.head _)).2.1 (N _ (.head _)).2.2 (N _ (.head _)).2.1 fun b o z _ => k b o z
theorem new_addr (F : Fr h₀ L s.heap m) : s.heap.objs.size ≠ L ∧ h₀.get? s.heap.objs.size = none := ⟨Nat.ne_of_gt F.ns.lt, next_is_new F⟩
theorem led_new {h' : Heap} {o : Obj} (F : Fr h₀ L s.heap m) (N : News h₀ L h' news) (e : h'.get? s.heap.objs.size = some o) : News h₀ L h' ((s.heap.objs.size, o) :: news) := fun p hp => by
  rcases List.mem_cons.mp hp with rfl | hp
  · exact ⟨e, new_addr F⟩
  · exact N p hp
theorem super_meth {pl : Sem Bool} {Q : Value × List Value → Shared → Prop} (F : Fr h₀ L s.heap m) (X : (Mine.K w.params).In h₀) (N : News h₀ L s.heap news) (hso : (so, ks_superObj 34 x 34) ∈ news) (hx : (x, excO 34 t) ∈ news)
    (h : ∀ q h', Fr h₀ L h' m → News h₀ L h' ((q, wrapO x) :: news) → AllLt q news → Q (.ref q, []) { s with heap := h', toks := s.toks + 1 }) : wpAny (model prog w) A (getMethod (.ref so) "__init__" pl) Q E s := by
  have X' := X.keeps F.keep
  obtain ⟨nm, q, N', bs, sn, sub, ab, col, dd, k0, k1, k2, k3, k5, mN, hC, hn, _⟩ := (bex_34 X').out
  have ho : Looks (model prog w) s.heap (opaqueClassAbove (.ref 34)) none := looks_opaque X' (by kernel_rfl)
  have hx34 : x ≠ 34 := fun z => by
    have e := (N _ hx).2.2
    rw [z] at e
    have := X 34 _ rfl
    rw [e] at this
    cases this
  obtain ⟨hh, g, dr, tk, os⟩ := s
  refine super_init_method hC (N _ hso).1 ho (N _ hx).1 rfl hx34 ?_
  obtain ⟨F', N', l'⟩ := ks_newsPush (s := ⟨hh, g, dr, tk, os⟩) (o := wrapO x) F N rfl (Heap.get?_push_at rfl rfl) (fun b o e => Heap.get?_push_of_some _ e)
  exact h _ _ F' N' (allLt_iff.mpr l')
theorem super_call {Q : Value → Shared → Prop} (F : Fr h₀ L s.heap m) (X : (Mine.K w.params).In h₀) (N : News h₀ L s.heap ((x, excO 34 t) :: news)) (off : ∀ p ∈ news, p.1 ≠ x) (hq : (q, wrapO x) ∈ news)
    (h : ∀ D h', Fr h₀ L h' m → News h₀ L h' ((x, excO 34 D) :: (D, tupO [v]) :: news) → AllLt D ((x, excO 34 t) :: news) → Q .none { s with heap := h' }) : wpAny (model prog w) A (call (.ref q) [v]) Q E s := by
  obtain ⟨nm, qn, N', bs, sn, sub, ab, col, dd, k0, k1, k2, k3, k5, mN, hC, _⟩ := (bex_34 (X.keeps F.keep)).out
  have hx := (N _ (.head _)).1
  have lt : ∀ {b o}, s.heap.get? b = some o → b < s.heap.objs.size := fun e => Heap.lt_size e
  obtain ⟨hh, g, dr, tk, os⟩ := s
  refine super_init_call hC (N _ (.tail _ hq)).1 hx ?_
  have k : ∀ b o, b ≠ x → hh.get? b = some o → ((hh.push (tupO [v])).update x (Obj.mapFields (·.setIfInBounds 0 (.ref hh.objs.size)))).get? b = some o := fun b o z e =>
    (Heap.get?_update_other _ _ (Ne.symm z)).trans (Heap.get?_push_of_some _ e)
  have hnew : ((hh.push (tupO [v])).update x (Obj.mapFields (·.setIfInBounds 0 (.ref hh.objs.size)))).get? x = some (excO 34 hh.objs.size) := Heap.get?_update_self _ (Heap.get?_push_of_some _ hx) rfl
  have hD : ((hh.push (tupO [v])).update x (Obj.mapFields (·.setIfInBounds 0 (.ref hh.objs.size)))).get? hh.objs.size = some (tupO [v]) :=
    (Heap.get?_update_other _ _ (Nat.ne_of_lt (lt hx))).trans (Heap.get?_push_at rfl rfl)
  have N2 := led_new (s := ⟨hh, g, dr, tk, os⟩) F (led_upd N off hnew k) hD
  exact h _ _ (fr_upd F N k) (newsSub N2 fun p hp => by simp only [List.mem_cons] at hp ⊢; grind) (allLt_iff.mpr fun p hp => lt (N p hp).1)
theorem store_code {Q : Unit → Shared → Prop} (F : Fr h₀ L s.heap m) (X : (Mine.K w.params).In h₀) (N : News h₀ L s.heap ((x, excO 34 t) :: news)) (off : ∀ p ∈ news, p.1 ≠ x)
    (h : ∀ D od h' tk', Fr h₀ L h' m → News h₀ L h' ((x, bexO D t) :: (D, od) :: news) → AllLt D ((x, excO 34 t) :: news) → NsObj od (fun y => if y = "code" then some v else none) → Q () { s with heap := h', toks := tk' }) :
    wpAny (model prog w) A (setAttr (.ref x) "code" v) Q E s := by
  obtain ⟨nm, qn, N', bs, sn, sub, ab, col, dd, k0, k1, k2, k3, k5, mN, hC, hn, _, m1, _, _, m4, _⟩ := (bex_34 (X.keeps F.keep)).out
  have hx := (N _ (.head _)).1
  have lt : ∀ {b o}, s.heap.get? b = some o → b < s.heap.objs.size := fun e => Heap.lt_size e
  obtain ⟨hh, g, dr, tk, os⟩ := s
  refine store_first PySem.F.store_Exception hC hn m1 m4 lk_code hx fun h' tk' od e1 e2 e3 e4 => ?_
  have N2 := led_new (s := ⟨hh, g, dr, tk, os⟩) F (led_upd N off e1 e4) e2
  exact h _ od h' tk' (fr_upd F N e4) (newsSub N2 fun p hp => by simp only [List.mem_cons] at hp ⊢; grind) (allLt_iff.mpr fun p hp => lt (N p hp).1) (nsObj_of e3 e2)
theorem store_told {Q : Unit → Shared → Prop} {c : Value} (F : Fr h₀ L s.heap m) (X : (Mine.K w.params).In h₀) (N : News h₀ L s.heap ((x, bexO d t) :: (d, od) :: news)) (hdx : d ≠ x) (off : ∀ p ∈ news, p.1 ≠ x) (offd : ∀ p ∈ news, p.1 ≠ d)
    (ns : NsObj od (fun y => if y = "code" then some c else none))
    (h : ∀ od h' tk' mA, Fr h₀ L h' m → News h₀ L h' ((x, bexO d t) :: (d, od) :: news) → NsObj od mA → mA "code" = some c → Q () { s with heap := h', toks := tk' }) :
    wpAny (model prog w) A (setAttr (.ref x) "told" v) Q E s := by
  obtain ⟨nm, qn, N', bs, sn, sub, ab, col, dd, k0, k1, k2, k3, k5, mN, hC, hn, _, m1, _, _, _, m5⟩ := (bex_34 (X.keeps F.keep)).out
  have hx := (N _ (.head _)).1
  have hd := (N _ (.tail _ (.head _))).1
  have hx34 : x ≠ 34 := fun z => by
    have e := (N _ (.head _)).2.2
    rw [z] at e
    have := X 34 _ rfl
    rw [e] at this
    cases this
  have lt : ∀ {b o}, s.heap.get? b = some o → b < s.heap.objs.size := fun e => Heap.lt_size e
  have I : s.heap.Inst x 34 (fun y => if y = "code" then some c else none) := ⟨_, hx, rfl, (fun _ e => nomatch e), .inr ⟨d, rfl, hdx, ns _ _ hd⟩⟩
  have nL := (N _ (.head _)).2
  have ndL := (N _ (.tail _ (.head _))).2
  obtain ⟨hh, g, dr, tk, os⟩ := s
  refine store_attr PySem.F.store_Exception hC hn m1 m5 lk_told hx34 I (fun h' tk' I' k sm => ?_) (Within.cons "code" c Within.nil)
  obtain ⟨o1, g1, c1, da1, sl1, d1⟩ := sm _ hx
  obtain ⟨o2, g2, _, _, di⟩ := I'
  rw [g1] at g2
  cases g2
  have hdd := d1 d rfl
  have ho1 : o1 = bexO d t := by
    obtain ⟨a, b, c', e⟩ := o1
    dsimp only at c1 da1 sl1 hdd
    subst c1 da1 sl1 hdd
    rfl
  subst ho1
  rcases di with ⟨z, _⟩ | ⟨d', z, _, n1⟩
  · cases z
  cases z
  obtain ⟨od', es, ep, god, r⟩ := id n1
  have kk : ∀ b o, b ≠ x → b ≠ d → hh.get? b = some o → h'.get? b = some o := fun b o z1 z2 e => k b o z1 (fun o₀ dx e1 e2 => by
    rw [hx] at e1
    cases e1
    cases e2
    exact z2) e
  refine h od' h' tk' _ (fr_same2 F nL.2 nL.1 ndL.2 ndL.1 fun b o z1 z2 e => kk b o z2 z1 e) (fun p hp => ?_) (nsObj_of n1 god) ?_
  · rcases List.mem_cons.mp hp with rfl | hp
    · exact ⟨g1, nL⟩
    rcases List.mem_cons.mp hp with rfl | hp
    · exact ⟨god, ndL⟩
    · exact ⟨kk _ _ (off p hp) (offd p hp) (N p (.tail _ (.tail _ hp))).1, (N p (.tail _ (.tail _ hp))).2⟩
  · rw [if_neg (by decide), if_pos rfl]
theorem callWith_wrap {M : Model} {pos : Pos} {env : Env} {e : Expr} {Q : Value → Shared → Prop} (h : wpAny M A (eval e env) (fun v s₁ => s₁.heap.get? q = some (wrapO x) ∧ wpAny M A (call (.ref q) [v]) Q E s₁) E s)
    (he : starEach (e :: []) env = (false, eval e env) :: starEach [] env := by rfl) : wpAny M A (callWith pos (.ref q) [] (backTo pos (starEach [e] env)) []) Q E s := by
  have hp : (backTo pos ((false, eval e env) :: starEach [] env)).any (·.1) = false := rfl
  have h' : wpAny M A (spliced (backTo pos (starEach [e] env))) (fun vs s₁ => ∃ v, vs = [v] ∧ s₁.heap.get? q = some (wrapO x) ∧ wpAny M A (call (.ref q) [v]) Q E s₁) E s :=
    spliced_more (wpAny_mono h (fun v s₁ h₁ => spliced_none ⟨v, rfl, h₁⟩) fun _ _ x => x) he
  rw [he] at h' ⊢
  unfold callWith
  refine wpAny_bind (wpAny_holding (Calls.evalArgs_plain (wpAny_mono h' (fun vs s₁ h₁ => ?_) fun _ _ x => x)))
  obtain ⟨v, rfl, h₁⟩ := h₁
  obtain ⟨ho, hcall⟩ := h₁
  refine wpAny_bind (wpAny_standAt ?_)
  simp only [hp, List.any_nil, Bool.or_false]
  refine wpAny_bind (m := keeperOf (.ref q)) ?_
  unfold keeperOf
  refine wpAny_bind (wpAny_load ho ?_)
  simp only [wrapO, show (Value.type "method-wrapper" != Value.type "method") = true by decide, show (Value.type "method-wrapper" == Value.type "builtin_function_or_method" || Value.type "method-wrapper" == Value.type "method-wrapper") = true by decide, if_true]
  refine wpAny_pure ?_
  exact wpAny_bind (wpAny_mono hcall (fun r s₂ hr => wpAny_bind (wpAny_holding (wpAny_point (wpAny_pure hr)))) fun _ _ x => x)
end
section
variable {M : Model} {A A₀ : Around} {E : Value → Shared → Prop} {s' : Shared} {base g h₀ h : Heap} {outer : List Env} {env env₀ : Env} {L L₀ e d t : Addr} {m m₀ : Str → Option Value} {Q : Unit → Shared → Prop} {news news' : Led} {od : Obj}
noncomputable abbrev frs (l : List Env) : List Addr := l.filterMap (·.frame)
structure Flies (h₀ : Heap) (L : Addr) (m : Str → Option Value) (env : Env) (outer : List Env) (news : Led) (e d t : Addr) (od : Obj) (h : Heap) : Prop where
  out : ∃ B, (∀ b o, h₀.get? b = some o → b ∉ frs outer → B.get? b = some o) ∧ (∀ q ∈ news, B.get? q.1 = some q.2) ∧ B.get? d = some od ∧ B.get? L = none ∧ Heap.FlyingW B (env :: outer) e (.ref 34) (.ref t) h
  dict : ∃ oe, h.get? e = some oe ∧ oe.dict = some d
  ns : h.Ns L m
  up : h₀.UpToSlots h
  newE : h₀.get? e = none ∧ e ≠ L
  newD : h₀.get? d = none ∧ d ≠ L
  news : ∀ q ∈ news, h₀.get? q.1 = none ∧ q.1 ≠ L
theorem dict_of_DK {h h' : Heap} {e d : Addr} {oe : Obj} (k : DK h h') (he : h.get? e = some oe) (hd : oe.dict = some d) {oe' : Obj} (he' : h'.get? e = some oe') : oe'.dict = some d := by
  obtain ⟨o', e1, e2⟩ := k e oe (Heap.get?_some_iff.mp he).1
  have := (Heap.get?_some_iff.mp he').1
  rw [e1] at this
  cases this
  rw [e2, hd]
theorem fr_not_in (F : Fr g L h m) {b : Addr} {o : Obj} (e : g.get? b = some o) : b ≠ L := fun z => by
  rw [z, kts_self F] at e
  cases e
theorem mem_frs {b : Addr} (hf : env.frame = some L) (hm : b ∈ frs (env :: outer)) : b = L ∨ b ∈ frs outer := by
  obtain ⟨v, hv, hb⟩ := List.mem_filterMap.mp hm
  rcases List.mem_cons.mp hv with rfl | hv
  · exact .inl (Option.some.inj (hb.symm.trans hf))
  · exact .inr (List.mem_filterMap.mpr ⟨v, hv, hb⟩)
theorem leave_bex (K : Below A base (env₀ :: outer) g) (F : Fr g L s'.heap m) (hf : env.frame = some L) (hk : env.scope.kind = .function) (hf₀ : env₀.frame = some L₀) (FG : Fr h₀ L₀ g m₀) (B₀ : h₀.FunFrames base outer)
    (N : News g L s'.heap ((e, bexO d t) :: (d, od) :: news)) (hde : d ≠ e) (off : ∀ p ∈ news, p.1 ≠ e)
    (hQ : ∀ h', Flies h₀ L₀ m₀ env₀ outer news e d t od h' → Q () { s' with heap := h' }) :
    wpAny M (A.deeper env) (leaving env (.ref e)) Q E s' := by
  have K' := pushX K F hf hk
  have he := (N _ (.head _)).1
  have nf : ∀ q ∈ (e, bexO d t) :: (d, od) :: news, q.1 ∉ frs (env :: env₀ :: outer) := fun q hq hm => by
    rcases mem_frs hf hm with z | z
    · exact (N q hq).2.1 z
    · obtain ⟨o, ho, _⟩ := (K.frames.mem z).2
      rw [(N q hq).2.2] at ho
      cases ho
  have hin : ∀ v ∈ env :: env₀ :: outer, ∀ b, v.frame = some b → b ∈ e :: frs (env :: env₀ :: outer) := fun v hv b hb => .tail _ (List.mem_filterMap.mpr ⟨v, hv, hb⟩)
  refine wpAny_mono (wpAny_KD (fun Γ => KD.leaving _ _) (wpAny_leaving_firstW (Q := fun _ s'' => ∃ h', s'' = { s' with heap := h' } ∧ Heap.LeftW (hideAll s'.heap (e :: frs (env :: env₀ :: outer))) (env :: env₀ :: outer) e (.ref 34) (.ref t) s'.heap h')
    (base := hideAll s'.heap (e :: frs (env :: env₀ :: outer))) (a0 := .ref t) K'.stack (funFrames_hide K'.frames hin) hf he (fun b o q => of_hideAll _ q) (hideAll_none _ (.head _)) rfl rfl rfl fun h' hL => ⟨h', rfl, hL⟩)) (fun _ s'' h'' => ?_) fun _ _ x => x
  obtain ⟨⟨h', rfl, k1, ⟨_, _, k2⟩, k3, k4⟩, dk⟩ := h''
  have up : g.UpToSlots h' := (Heap.UpToSlots.of_keeps F.keep).trans k4
  have sub : ∀ b o, h₀.get? b = some o → g.get? b = some o := FG.keep
  refine hQ h' ⟨⟨_, fun b o q nm => hideAll_get _ (F.keep _ _ (sub b o q)) ?_, fun q hq => hideAll_get _ (N q (.tail _ (.tail _ hq))).1 ?_, hideAll_get _ (N _ (.tail _ (.head _))).1 ?_, hideAll_none _ (.tail _ (List.mem_filterMap.mpr ⟨env₀, .tail _ (.head _), hf₀⟩)), k1, hideAll_none _ (.head _), k2, k3⟩, ?_, up.ns FG.ns,
    (Heap.UpToSlots.of_keeps sub).trans up, ⟨kts_none sub (N _ (.head _)).2.2, ?_⟩, ⟨kts_none sub (N _ (.tail _ (.head _))).2.2, ?_⟩, fun q hq => ⟨kts_none sub (N q (.tail _ (.tail _ hq))).2.2, ?_⟩⟩
  · intro hm
    rcases List.mem_cons.mp hm with z | hm
    · have := (N _ (.head _)).2.2
      rw [← z, sub b o q] at this
      cases this
    rcases mem_frs hf hm with z | hm
    · exact fr_not_in F (sub b o q) z
    rcases mem_frs hf₀ hm with z | hm
    · exact fr_not_in FG q z
    · exact nm hm
  · intro hm
    rcases List.mem_cons.mp hm with z | hm
    · exact off q hq z
    · exact nf q (.tail _ (.tail _ hq)) hm
  · intro hm
    rcases List.mem_cons.mp hm with z | hm
    · exact hde z
    · exact nf _ (.tail _ (.head _)) hm
  · obtain ⟨oe, vs, T, oT, ts, x1, _⟩ := k3
    exact ⟨oe, x1, dict_of_DK dk he rfl x1⟩
  all_goals
    intro z
    obtain ⟨oL, _, _, hL, _⟩ := FG.ns
  · have := (N _ (.head _)).2.2
    rw [z, hL] at this
    cases this
  · have := (N _ (.tail _ (.head _))).2.2
    rw [z, hL] at this
    cases this
  · have := (N q (.tail _ (.tail _ hq))).2.2
    rw [z, hL] at this
    cases this
theorem leave_flies (K : Below A base (env₀ :: outer) g) (F : Fr g L h m) (hf : env.frame = some L) (hf₀ : env₀.frame = some L₀) (FG : Fr h₀ L₀ g m₀)
    (R : Flies g L m env (env₀ :: outer) news e d t od s'.heap)
    (hQ : ∀ h', Flies h₀ L₀ m₀ env₀ outer news e d t od h' → Q () { s' with heap := h' }) :
    wpAny M (A.deeper env) (leaving env (.ref e)) Q E s' := by
  obtain ⟨⟨B, b1, b2, b3, _, fl⟩, ⟨oe, he, hd⟩, ns, up, ne, nd, nn⟩ := R
  refine wpAny_mono (wpAny_KD (fun Γ => KD.leaving _ _) (wpAny_leaves_onW (Q := fun _ s'' => ∃ h', s'' = { s' with heap := h' } ∧ Heap.FlyingW B (env₀ :: outer) e (.ref 34) (.ref t) h' ∧ s'.heap.UpToSlots h') (Around.frames_deeper K.stack) hf fl fun h' x1 x2 => ⟨h', rfl, x1, x2⟩)) (fun _ s'' h'' => ?_) fun _ _ x => x
  obtain ⟨⟨h', rfl, x1, x2⟩, dk⟩ := h''
  have sub : ∀ b o, h₀.get? b = some o → g.get? b = some o := FG.keep
  have up' : g.UpToSlots h' := up.trans x2
  have hL₀ : B.get? L₀ = none := (x1.2.2.1.mem (List.mem_filterMap.mpr ⟨env₀, .head _, hf₀⟩)).1
  refine hQ h' ⟨⟨B, fun b o q nm => b1 b o (sub b o q) ?_, b2, b3, hL₀, x1⟩, ?_, up'.ns FG.ns, (Heap.UpToSlots.of_keeps sub).trans up', ⟨kts_none sub ne.1, ?_⟩, ⟨kts_none sub nd.1, ?_⟩, fun q hq => ⟨kts_none sub (nn q hq).1, ?_⟩⟩
  · intro hm
    rcases mem_frs hf₀ hm with z | hm
    · exact fr_not_in FG q z
    · exact nm hm
  · obtain ⟨oe', x3, _⟩ := x1.there
    exact ⟨oe', x3, dict_of_DK dk he hd x3⟩
  all_goals
    intro z
    obtain ⟨oL, _, _, hL, _⟩ := FG.ns
  · have := ne.1
    rw [z, hL] at this
    cases this
  · have := nd.1
    rw [z, hL] at this
    cases this
  · have := (nn q hq).1
    rw [z, hL] at this
    cases this
end
section
variable {prog : Program} {w : World} {A₀ : Around} {E : Value → Shared → Prop} {s' : Shared} {base g : Heap} {outer : List Env} {L a e d t : Addr} {m : Str → Option Value} {name : Str} {scope : Scope} {cd : Value}
  {n : Str} {b₀ : Stmt} {suite : List Stmt} {pos np : Pos} {rest : List ExceptHandler} {Q : Flow → Shared → Prop} {news : Led} {od : Obj} {p : Program} {loose : List Str} {mean : ExcName → Option Value} {mg mb : Str → Option Value} {x : Str}
theorem ground_now (K : Below A₀ base outer g) (R : Flies g L m (envOf name scope L a cd) outer news e d t od s'.heap) {G h : Heap} (F : Fr g L G m) {B : Heap} (b1 : ∀ b o, g.get? b = some o → b ∉ frs outer → B.get? b = some o) (hB : B.StaysIn h) (up : g.UpToSlots h) (ns : h.Ns L m) :
    ∃ g', KtsTurn (frs outer) g g' ∧ Fr g' L h m ∧ Below A₀ base outer g' := by
  obtain ⟨TT, S⟩ := kts_turn_at (h := h) (fs := frs outer) (g := g) (fun b hb => let ⟨_, o, ho, _⟩ := K.frames.mem hb; ⟨o, ho⟩) (fun b o e nm => hB b o (b1 b o e nm))
    (fun b o e hm => by
      obtain ⟨_, o', ho', hd⟩ := K.frames.mem hm
      rw [e] at ho'
      cases ho'
      exact up b o e hd)
  refine ⟨_, TT, ⟨ns, S, by rw [TT.size]; exact F.above⟩, ⟨K.stack, fun b o e => TT.other b o (K.stays b o e) (fun hm => ?_), K.frames.of_keeps fun b o e _ => ?_⟩⟩
  · rw [(K.frames.mem hm).1] at e
    cases e
  · obtain ⟨sl, hs⟩ := TT.up e
    exact ⟨_, hs, rfl⟩
theorem catch_bex {G : Heap} (R : Flies g L m (envOf name scope L a cd) outer news e d t od s'.heap) (F : Fr g L G m) (K : Below A₀ base outer g) (XB : (Mine.K w.params).In base) (TB : Top p loose mean mg mb base)
    (hod : ∀ vs, od.data ≠ .fields vs)
    (ex : nsIn (Mine.K w.params) mainGlobals x = some (some (.ref 34)))
    (k : ∀ h' g' tk oe vs, KtsTurn (frs outer) g g' → Fr g' L h' (fun y => if y = n then some (.ref e) else m y) → News g' L h' ((e, oe) :: (d, od) :: news) → oe = { cls := .ref 34, dict := some d, data := .fields vs, slots := oe.slots } → Below A₀ base outer g' → (Mine.K w.params).In g' → Top p loose mean mg mb g' →
      wpAny (model prog w) ((A₀.deeper (envOf name scope L a cd)).mark (some (.ref e))) (execs (b₀ :: suite) (envOf name scope L a cd))
        (fun f s₄ => wpAny (model prog w) (A₀.deeper (envOf name scope L a cd)) (do bindName (envOf name scope L a cd) n .none; unbindBehindTheSuite (envOf name scope L a cd) n pos) (fun _ s₅ => Q f s₅) E s₄)
        (AsSuiteRaised (model prog w) ((A₀.deeper (envOf name scope L a cd)).mark (some (.ref e))) (envOf name scope L a cd) n pos (notedBy (model prog w) ((A₀.deeper (envOf name scope L a cd)).mark (some (.ref e))) (envOf name scope L a cd) (cameBackBy (model prog w) (A₀.deeper (envOf name scope L a cd)) (envOf name scope L a cd) E)))
        { s' with heap := h', toks := tk })
    (hk : scope.kind = .function := by rfl) (hlo : (envOf name scope L a cd).kindOf n = some .local := by rfl) (hx : (envOf name scope L a cd).kindOf x = some .globalImplicit := by rfl) (hd : (x == ("__debug__" : Str)) = false := by decide) :
    wpAny (model prog w) (A₀.deeper (envOf name scope L a cd)) (noteFrame (.ref e) (envOf name scope L a cd))
      (fun _ s₂ => wpAny (model prog w) (A₀.deeper (envOf name scope L a cd)) (setFlight (.ref e) none) (fun _ s₃ =>
        wpAny (model prog w) (A₀.deeper (envOf name scope L a cd)) (handleBy (.ref e) (envOf name scope L a cd) (.ExceptHandler (some (.Name x np)) (some n) (b₀ :: suite) pos :: rest)) Q E s₃) E s₂) E s' := by
  have R0 := R
  obtain ⟨⟨B, b1, b2, b3, bL, fl⟩, ⟨oe0, he0, hd0⟩, ns, up, ne, nd, nn⟩ := R
  refine wpAny_mono (wpAny_KD (fun Γ => KD.noteFrame _ _) (wpAny_looks_onW (Q := fun _ s'' => ∃ h', s'' = { s' with heap := h' } ∧ Heap.HeldW B (envOf name scope L a cd :: outer) e (.ref 34) (.ref t) L h' ∧ s'.heap.UpToSlots h') (Around.frames_deeper K.stack) rfl fl fun h' x1 x2 => ⟨h', rfl, x1, x2⟩)) (fun _ s'' h'' => ?_) fun _ _ x => x
  obtain ⟨⟨h4, rfl, held4, sm4⟩, dk4⟩ := h''
  refine wpAny_mono (wpAny_KD (fun Γ => KD.setFlight _ _) (wpAny_landsW (Q := fun _ s'' => ∃ h', s'' = { s' with heap := h' } ∧ Heap.FlyingW B (envOf name scope L a cd :: outer) e (.ref 34) (.ref t) h' ∧ h4.UpToSlots h') held4 fun h' x1 x2 => ⟨h', rfl, x1, x2⟩)) (fun _ s'' h'' => ?_) fun _ _ x => x
  obtain ⟨⟨h5, rfl, fl5, sm5⟩, dk5⟩ := h''
  have up5 := (up.trans sm4).trans sm5
  have ns5 := (sm4.trans sm5).ns ns
  obtain ⟨g5, T5, F5, K5⟩ := ground_now K R0 F b1 fl5.1 up5 ns5
  have X5 := XB.keeps K5.stays
  have P5 : TopRead p loose mg mb g5 := topRead_of (TB.keeps K5.stays)
  obtain ⟨ob, hob, hobc⟩ := fl5.there
  obtain ⟨nm, qn, N', bs, sn, sub, ab, col, dd, k0, k1, k2, k3, k5, mN, hC, _⟩ := (bex_34 (X5.keeps F5.keep)).out
  refine wpAny_handleBy_cons (codeAny_handlers_test (name_K F5 X5 P5 ex ?_ hk hx hd)) (by intro q; cases q)
  refine wpAny_excMatches_sub_self hC hob hobc (by decide) (codeAny_handlers_suite_as ?_)
  refine wpAny_mono (wpAny_KD (fun Γ => KD.setFlight _ _) (lands_againW (Q := fun _ s'' => ∃ h', s'' = { s' with heap := h' } ∧ Heap.FlyingW B (envOf name scope L a cd :: outer) e (.ref 34) (.ref t) h' ∧ h5.UpToSlots h') fl5 fun h' x1 x2 => ⟨h', rfl, x1, x2⟩)) (fun _ s'' h'' => ?_) fun _ _ x => x
  obtain ⟨⟨h6, rfl, fl6, sm6⟩, dk6⟩ := h''
  obtain ⟨g6, T6, F6, K6⟩ := ground_now K R0 F b1 fl6.1 (up5.trans sm6) (sm6.ns ns5)
  obtain ⟨oe, ws, hoe, hoec, hoed, _⟩ := fl6.first
  have hdict := dict_of_DK ((dk4.trans dk5).trans dk6) he0 hd0 hoe
  have X6 := XB.keeps K6.stays
  have P6 : Top p loose mean mg mb g6 := TB.keeps K6.stays
  have N6 : News g6 L h6 ((e, oe) :: (d, od) :: news) := fun q hq => by
    rcases List.mem_cons.mp hq with rfl | hq
    · exact ⟨hoe, ne.2, T6.none_ _ ne.1⟩
    rcases List.mem_cons.mp hq with rfl | hq
    · exact ⟨fl6.1 _ _ b3, nd.2, T6.none_ _ nd.1⟩
    · exact ⟨fl6.1 _ _ (b2 q hq), (nn q hq).2, T6.none_ _ (nn q hq).1⟩
  refine stN F6 N6 (fun h7 F7 N7 => ?_) hk hlo
  refine k h7 g6 _ oe ws T6 F7 N7 ?_ K6 X6 P6
  obtain ⟨_, _, _, _⟩ := oe
  dsimp only at hoec hoed hdict
  subst hoec hoed hdict
  rfl
end
section
variable {prog : Program} {w : World} {A : Around} {E : Value → Shared → Prop} {s : Shared} {env : Env} {h₀ : Heap} {L : Addr} {m : Str → Option Value} {news : Led}
theorem raise_bex {e : Expr} {pos : Pos} {Q : Flow → Shared → Prop} (hh : A.handled = none)
    (h : wpAny (model prog w) A (eval e env) (fun v s₁ => ∃ x d t, v = .ref x ∧ BexCls s₁.heap 34 31 ∧ s₁.heap.get? x = some (bexO d t) ∧ E (.ref x) s₁) E s) :
    wpAny (model prog w) A (exec (.Raise (some e) none pos) env) Q E s := by
  show wpAny (model prog w) A (do standAt pos; raiseStmt env (some (do let v ← eval e env; standAt pos; pure v)) none) Q E s
  refine wpAny_bind (wpAny_standAt ?_)
  unfold raiseStmt
  dsimp only
  refine wpAny_bind (wpAny_bind (wpAny_mono h (fun v s₁ h₁ => wpAny_bind (wpAny_standAt (wpAny_pure ?_))) fun _ _ x => x))
  obtain ⟨x, d, t, rfl, X, he, hE⟩ := h₁
  obtain ⟨nm, qn, N', bs, sn, sub, ab, col, dd, k0, k1, k2, k3, k5, mN, hC, _⟩ := X.out
  have hcB : (Value.ref 34 :: bmE).contains (.type "BaseException") = true := by decide
  obtain ⟨hp, g, dr, tk, os⟩ := s₁
  repeat (first | with_reducible refine wpAny_loadPart_at he ?_ | with_reducible refine wpAny_loadPart_at hC ?_ | (with_reducible refine wpAny_isSubtype_exc hC ?_; rw [hcB]) | wp_step)
  exact wpAny_raiseNew_none hh hE
structure DictIn (prog : Program) (w : World) (l : Led) (D : Addr) (o : Obj) (kvs : List (Int × Value)) : Prop where
  hm : (D, o) ∈ l
  hd : o.IsDictOf (PySem.intKind prog w) kvs
  lo : (D == sysModules) = false
theorem DictIn.mono {l l' : Led} {D : Addr} {o : Obj} {kvs : List (Int × Value)} (h : DictIn prog w l D o kvs) (hs : ∀ p ∈ l, p ∈ l') : DictIn prog w l' D o kvs := ⟨hs _ h.hm, h.hd, h.lo⟩
theorem while_hold {test body pos} {Q : Flow → Shared → Prop}
    (h : Hold (codeAny (model prog w) A (.whileLoop test body [] env) (fun r s' => match r with | .ok f => Q f s' | .error e => cameBackBy (model prog w) A env E e s') s)) : wpAny (model prog w) A (exec (.While test body [] pos) env) Q E s := wpAny_While h.out
theorem loopW {test : Expr} {body : List Stmt} {Q : Flow → Shared → Prop} (J : Nat → (Str → Option Value) → Prop) (c : Nat) (F : Fr h₀ env.locals s.heap m) (N : News h₀ env.locals s.heap news) (h0 : J c m)
    (turn : ∀ c m₁ h tk, J c m₁ → Fr h₀ env.locals h m₁ → News h₀ env.locals h news →
      wpAny (model prog w) A (isTrue test env (eval test env)) (fun b s₂ => if b then wpAny (model prog w) A (execs body env) (fun f s₃ => f = .next ∧ ∃ c' m' h' tk', c' < c ∧ s₃ = { s with heap := h', toks := tk' } ∧ Fr h₀ env.locals h' m' ∧ News h₀ env.locals h' news ∧ J c' m') (fun _ _ => False) s₂ else Q .next s₂) (fun _ _ => False) { s with heap := h, toks := tk }) :
    codeAny (model prog w) A (.whileLoop test body [] env) (fun r s' => match r with | .ok f => Q f s' | .error e => cameBackBy (model prog w) A env E e s') s := by
  refine codeAny_whileLoop (fun c s' => ∃ m' h' tk', s' = { s with heap := h', toks := tk' } ∧ Fr h₀ env.locals h' m' ∧ News h₀ env.locals h' news ∧ J c m') ?_ c ⟨m, s.heap, s.toks, rfl, F, N, h0⟩
  rintro c s' ⟨m', h', tk', rfl, F', N', j⟩
  refine wpAny_mono (turn c m' h' tk' j F' N') (fun b s₂ hb => ?_) fun _ _ x => x.elim
  cases b with
  | true =>
    simp only [if_true] at hb ⊢
    refine wpAny_mono hb (fun f s₃ hf => ?_) fun _ _ x => x.elim
    obtain ⟨rfl, c', m₂, h₂, tk₂, lt, e, F₂, N₂, j₂⟩ := hf
    exact ⟨c', lt, m₂, h₂, tk₂, e, F₂, N₂, j₂⟩
  | false =>
    simp only [Bool.false_eq_true, if_false] at hb ⊢
    exact wpAny_execs_nil hb
theorem stored_le {K : Type} [DecidableEq K] (kvs : List (K × Value)) (k : K) (v : Value) : (stored kvs k v).length ≤ kvs.length + 1 := by
  unfold stored; split <;> simp
theorem kl_last_snoc {vs : List Value} {y : Value} : kl_last (vs ++ [y]) = some (vs, y) := by
  induction vs with
  | nil => rfl
  | cons x r ih => rw [List.cons_append, kl_last, ih]
end
noncomputable def vw : Program := view PySem.Challenge.pw_pc0003_01 [1, 3, 4, 5, 6, 7, 8, 9, 10, 11, 12, 13, 14, 15, 16, 18, 19, 20, 21, 22, 23, 24]
theorem adrs_K : ∀ P, adrs = (K P).map (·.1) := fun _ => by kernel_rfl
noncomputable def hk : Hook := kmHook K adrs adrs_K [191]
set_option maxRecDepth 1000000 in
theorem left : LeftO PySem.Challenge.rw_pc0003_01.row.prog vw [Str.ofString "BasicError"] (fun s => xlAt vw [] s && recOk PySem.Challenge.rw_pc0003_01.row.records s) hk.obs hk.val 2380 := fun w => by
  unfold openEnds
  kernel_rfl
structure IsB (l : FuncBody) : Type
structure IsSc (s : Scope) : Type
noncomputable def lawScope : Scope := by
  refine (?f : IsSc (dfScope d24) → Scope) IsSc.mk
  intro h
  dsimp only [dfScope, tl1, hd1, PySem.Challenge.pw_pc0003_01, t0, t1, t2, t3, t4, t5, t6, t7, t8, t9, t10, t11, t12, t13, t14, t15, t16, t17, t18, t19, t20, t21, t22, t23, t24, d24] at h
  refine (?g : (s : Scope) → IsSc s → Scope) _ h
  intro s _
  exact s
noncomputable def lawSt0 : Stmt := by
  refine (?f : IsB (dfBody d24) → Stmt) IsB.mk
  intro h
  dsimp only [dfBody, tl1, hd1, PySem.Challenge.pw_pc0003_01, t0, t1, t2, t3, t4, t5, t6, t7, t8, t9, t10, t11, t12, t13, t14, t15, t16, t17, t18, t19, t20, t21, t22, t23, t24, d24] at h
  refine (?g : (x0 x1 x2 x3 x4 x5 x6 x7 x8 x9 x10 x11 x12 : Stmt) → IsB (.stmts [x0, x1, x2, x3, x4, x5, x6, x7, x8, x9, x10, x11, x12]) → Stmt) _ _ _ _ _ _ _ _ _ _ _ _ _  h
  intro x0 x1 x2 x3 x4 x5 x6 x7 x8 x9 x10 x11 x12 _
  exact x0
noncomputable def lawSt1 : Stmt := by
  refine (?f : IsB (dfBody d24) → Stmt) IsB.mk
  intro h
  dsimp only [dfBody, tl1, hd1, PySem.Challenge.pw_pc0003_01, t0, t1, t2, t3, t4, t5, t6, t7, t8, t9, t10, t11, t12, t13, t14, t15, t16, t17, t18, t19, t20, t21, t22, t23, t24, d24] at h
  refine (?g : (x0 x1 x2 x3 x4 x5 x6 x7 x8 x9 x10 x11 x12 : Stmt) → IsB (.stmts [x0, x1, x2, x3, x4, x5, x6, x7, x8, x9, x10, x11, x12]) → Stmt) _ _ _ _ _ _ _ _ _ _ _ _ _  h
  intro x0 x1 x2 x3 x4 x5 x6 x7 x8 x9 x10 x11 x12 _
  exact x1
noncomputable def lawSt2 : Stmt := by
  refine (?f : IsB (dfBody d24) → Stmt) IsB.mk
  intro h
  dsimp only [dfBody, tl1, hd1, PySem.Challenge.pw_pc0003_01, t0, t1, t2, t3, t4, t5, t6, t7, t8, t9, t10, t11, t12, t13, t14, t15, t16, t17, t18, t19, t20, t21, t22, t23, t24, d24] at h
  refine (?g : (x0 x1 x2 x3 x4 x5 x6 x7 x8 x9 x10 x11 x12 : Stmt) → IsB (.stmts [x0, x1, x2, x3, x4, x5, x6, x7, x8, x9, x10, x11, x12]) → Stmt) _ _ _ _ _ _ _ _ _ _ _ _ _  h
  intro x0 x1 x2 x3 x4 x5 x6 x7 x8 x9 x10 x11 x12 _
  exact x2
noncomputable def lawSt3 : Stmt := by
  refine (?f : IsB (dfBody d24) → Stmt) IsB.mk
  intro h
  dsimp only [dfBody, tl1, hd1, PySem.Challenge.pw_pc0003_01, t0, t1, t2, t3, t4, t5, t6, t7, t8, t9, t10, t11, t12, t13, t14, t15, t16, t17, t18, t19, t20, t21, t22, t23, t24, d24] at h
  refine (?g : (x0 x1 x2 x3 x4 x5 x6 x7 x8 x9 x10 x11 x12 : Stmt) → IsB (.stmts [x0, x1, x2, x3, x4, x5, x6, x7, x8, x9, x10, x11, x12]) → Stmt) _ _ _ _ _ _ _ _ _ _ _ _ _  h
  intro x0 x1 x2 x3 x4 x5 x6 x7 x8 x9 x10 x11 x12 _
  exact x3
noncomputable def lawSt4 : Stmt := by
  refine (?f : IsB (dfBody d24) → Stmt) IsB.mk
  intro h
  dsimp only [dfBody, tl1, hd1, PySem.Challenge.pw_pc0003_01, t0, t1, t2, t3, t4, t5, t6, t7, t8, t9, t10, t11, t12, t13, t14, t15, t16, t17, t18, t19, t20, t21, t22, t23, t24, d24] at h
  refine (?g : (x0 x1 x2 x3 x4 x5 x6 x7 x8 x9 x10 x11 x12 : Stmt) → IsB (.stmts [x0, x1, x2, x3, x4, x5, x6, x7, x8, x9, x10, x11, x12]) → Stmt) _ _ _ _ _ _ _ _ _ _ _ _ _  h
  intro x0 x1 x2 x3 x4 x5 x6 x7 x8 x9 x10 x11 x12 _
  exact x4
noncomputable def lawSt5 : Stmt := by
  refine (?f : IsB (dfBody d24) → Stmt) IsB.mk
  intro h
  dsimp only [dfBody, tl1, hd1, PySem.Challenge.pw_pc0003_01, t0, t1, t2, t3, t4, t5, t6, t7, t8, t9, t10, t11, t12, t13, t14, t15, t16, t17, t18, t19, t20, t21, t22, t23, t24, d24] at h
  refine (?g : (x0 x1 x2 x3 x4 x5 x6 x7 x8 x9 x10 x11 x12 : Stmt) → IsB (.stmts [x0, x1, x2, x3, x4, x5, x6, x7, x8, x9, x10, x11, x12]) → Stmt) _ _ _ _ _ _ _ _ _ _ _ _ _  h
  intro x0 x1 x2 x3 x4 x5 x6 x7 x8 x9 x10 x11 x12 _
  exact x5
noncomputable def lawSt6 : Stmt := by
  refine (?f : IsB (dfBody d24) → Stmt) IsB.mk
  intro h
  dsimp only [dfBody, tl1, hd1, PySem.Challenge.pw_pc0003_01, t0, t1, t2, t3, t4, t5, t6, t7, t8, t9, t10, t11, t12, t13, t14, t15, t16, t17, t18, t19, t20, t21, t22, t23, t24, d24] at h
  refine (?g : (x0 x1 x2 x3 x4 x5 x6 x7 x8 x9 x10 x11 x12 : Stmt) → IsB (.stmts [x0, x1, x2, x3, x4, x5, x6, x7, x8, x9, x10, x11, x12]) → Stmt) _ _ _ _ _ _ _ _ _ _ _ _ _  h
  intro x0 x1 x2 x3 x4 x5 x6 x7 x8 x9 x10 x11 x12 _
  exact x6
noncomputable def lawSt7 : Stmt := by
  refine (?f : IsB (dfBody d24) → Stmt) IsB.mk
  intro h
  dsimp only [dfBody, tl1, hd1, PySem.Challenge.pw_pc0003_01, t0, t1, t2, t3, t4, t5, t6, t7, t8, t9, t10, t11, t12, t13, t14, t15, t16, t17, t18, t19, t20, t21, t22, t23, t24, d24] at h
  refine (?g : (x0 x1 x2 x3 x4 x5 x6 x7 x8 x9 x10 x11 x12 : Stmt) → IsB (.stmts [x0, x1, x2, x3, x4, x5, x6, x7, x8, x9, x10, x11, x12]) → Stmt) _ _ _ _ _ _ _ _ _ _ _ _ _  h
  intro x0 x1 x2 x3 x4 x5 x6 x7 x8 x9 x10 x11 x12 _
  exact x7
noncomputable def lawSt8 : Stmt := by
  refine (?f : IsB (dfBody d24) → Stmt) IsB.mk
  intro h
  dsimp only [dfBody, tl1, hd1, PySem.Challenge.pw_pc0003_01, t0, t1, t2, t3, t4, t5, t6, t7, t8, t9, t10, t11, t12, t13, t14, t15, t16, t17, t18, t19, t20, t21, t22, t23, t24, d24] at h
  refine (?g : (x0 x1 x2 x3 x4 x5 x6 x7 x8 x9 x10 x11 x12 : Stmt) → IsB (.stmts [x0, x1, x2, x3, x4, x5, x6, x7, x8, x9, x10, x11, x12]) → Stmt) _ _ _ _ _ _ _ _ _ _ _ _ _  h
  intro x0 x1 x2 x3 x4 x5 x6 x7 x8 x9 x10 x11 x12 _
  exact x8
noncomputable def lawSt9 : Stmt := by
  refine (?f : IsB (dfBody d24) → Stmt) IsB.mk
  intro h
  dsimp only [dfBody, tl1, hd1, PySem.Challenge.pw_pc0003_01, t0, t1, t2, t3, t4, t5, t6, t7, t8, t9, t10, t11, t12, t13, t14, t15, t16, t17, t18, t19, t20, t21, t22, t23, t24, d24] at h
  refine (?g : (x0 x1 x2 x3 x4 x5 x6 x7 x8 x9 x10 x11 x12 : Stmt) → IsB (.stmts [x0, x1, x2, x3, x4, x5, x6, x7, x8, x9, x10, x11, x12]) → Stmt) _ _ _ _ _ _ _ _ _ _ _ _ _  h
  intro x0 x1 x2 x3 x4 x5 x6 x7 x8 x9 x10 x11 x12 _
  exact x9
noncomputable def lawSt10 : Stmt := by
  refine (?f : IsB (dfBody d24) → Stmt) IsB.mk
  intro h
  dsimp only [dfBody, tl1, hd1, PySem.Challenge.pw_pc0003_01, t0, t1, t2, t3, t4, t5, t6, t7, t8, t9, t10, t11, t12, t13, t14, t15, t16, t17, t18, t19, t20, t21, t22, t23, t24, d24] at h
  refine (?g : (x0 x1 x2 x3 x4 x5 x6 x7 x8 x9 x10 x11 x12 : Stmt) → IsB (.stmts [x0, x1, x2, x3, x4, x5, x6, x7, x8, x9, x10, x11, x12]) → Stmt) _ _ _ _ _ _ _ _ _ _ _ _ _  h
  intro x0 x1 x2 x3 x4 x5 x6 x7 x8 x9 x10 x11 x12 _
  exact x10
noncomputable def lawSt11 : Stmt := by
  refine (?f : IsB (dfBody d24) → Stmt) IsB.mk
  intro h
  dsimp only [dfBody, tl1, hd1, PySem.Challenge.pw_pc0003_01, t0, t1, t2, t3, t4, t5, t6, t7, t8, t9, t10, t11, t12, t13, t14, t15, t16, t17, t18, t19, t20, t21, t22, t23, t24, d24] at h
  refine (?g : (x0 x1 x2 x3 x4 x5 x6 x7 x8 x9 x10 x11 x12 : Stmt) → IsB (.stmts [x0, x1, x2, x3, x4, x5, x6, x7, x8, x9, x10, x11, x12]) → Stmt) _ _ _ _ _ _ _ _ _ _ _ _ _  h
  intro x0 x1 x2 x3 x4 x5 x6 x7 x8 x9 x10 x11 x12 _
  exact x11
noncomputable def lawSt12 : Stmt := by
  refine (?f : IsB (dfBody d24) → Stmt) IsB.mk
  intro h
  dsimp only [dfBody, tl1, hd1, PySem.Challenge.pw_pc0003_01, t0, t1, t2, t3, t4, t5, t6, t7, t8, t9, t10, t11, t12, t13, t14, t15, t16, t17, t18, t19, t20, t21, t22, t23, t24, d24] at h
  refine (?g : (x0 x1 x2 x3 x4 x5 x6 x7 x8 x9 x10 x11 x12 : Stmt) → IsB (.stmts [x0, x1, x2, x3, x4, x5, x6, x7, x8, x9, x10, x11, x12]) → Stmt) _ _ _ _ _ _ _ _ _ _ _ _ _  h
  intro x0 x1 x2 x3 x4 x5 x6 x7 x8 x9 x10 x11 x12 _
  exact x12
structure IsSt (s : Stmt) : Type
structure IsStL (s : List Stmt) : Type
noncomputable def nth : List Stmt → Nat → Stmt
  | a :: _, 0 => a
  | _ :: l, k + 1 => nth l k
  | [], _ => default
noncomputable def dfBodyL : Stmt → List Stmt
  | .FunctionDef _ _ b _ _ _ _ _ _ _ => b
  | _ => []
noncomputable def forB : Stmt → List Stmt
  | .For _ _ b _ _ => b
  | _ => []
noncomputable def stmSc : Scope := by
  refine (?f : IsSc (dfScope d18) → Scope) IsSc.mk
  intro h
  dsimp only [dfScope, tl1, hd1, PySem.Challenge.pw_pc0003_01, t0, t1, t2, t3, t4, t5, t6, t7, t8, t9, t10, t11, t12, t13, t14, t15, t16, t17, t18, d18] at h
  refine (?g : (s : Scope) → IsSc s → Scope) _ h
  intro s _
  exact s
noncomputable def stmIf : Stmt := by
  refine (?f : IsSt (nth (forB (nth (dfBodyL d18) 3)) 1) → Stmt) IsSt.mk
  intro h
  dsimp only [nth, dfBodyL, forB, tl1, hd1, PySem.Challenge.pw_pc0003_01, t0, t1, t2, t3, t4, t5, t6, t7, t8, t9, t10, t11, t12, t13, t14, t15, t16, t17, t18, d18] at h
  refine (?g : (s : Stmt) → IsSt s → Stmt) _ h
  intro s _
  exact s
theorem fillK0 : (Mine.K = Mine.K) ∧ (PySem.Challenge.rw_pc0003_01 = PySem.Challenge.rw_pc0003_01) := by
  k_fill; exact ⟨rfl, rfl⟩
local macro_rules | `(tactic| k_all) => `(tactic| assumption)
local macro_rules | `(tactic| k_all) => `(tactic| (refine off_of_lt ?_; assumption))
local macro_rules | `(tactic| walk_at "call builtin:len") => `(tactic| (k_here; (with_reducible show wpAny _ _ (call (Value.builtin "len") [Value.ref _]) _ _ _); k_dflt (refine' len_list ?k1 ?k2 ?_; (case k1 => first | (with_reducible assumption) | exact News.isList (by k_asm) (by k_mem)); (case k2 => (first | omega | (simp only [List.size_toArray, Array.size_push, List.length_append, List.length_cons, List.length_nil]; omega))); k_whole)))
local macro_rules | `(tactic| k_mem) => `(tactic| assumption)
local macro_rules | `(tactic| k_allIn) => `(tactic| (refine List.forall_mem_append.mpr ⟨?_, ?_⟩ <;> k_allIn))
local macro_rules | `(tactic| k_allIn) => `(tactic| (intro p9 h9; k_ownIn))
local macro_rules | `(tactic| k_ownIn) => `(tactic| (refine List.mem_append_left _ ?_; k_ownIn))
local macro_rules | `(tactic| k_ownIn) => `(tactic| (refine List.mem_append_right _ ?_; k_ownIn))
local macro_rules | `(tactic| k_ownIn) => `(tactic| (refine List.Mem.tail _ ?_; k_ownIn))
local macro_rules | `(tactic| k_ownIn) => `(tactic| (with_reducible assumption))
local macro_rules | `(tactic| walk_at "call ref") => `(tactic| (k_here; (with_reducible show wpAny _ _ (call (Value.ref _) _) _ _ _); refine call_hold ?_))
local macro_rules | `(tactic| walk_at "exec For Name Name cons nil") => `(tactic| (k_here; refine for_hold ?_ (by intro _; rfl)))
local macro_rules | `(tactic| walk_at "exec For Name Call cons nil") => `(tactic| (k_here; refine for_hold ?_ (by intro _; rfl)))
local macro_rules | `(tactic| walk_at "exec For Name Attribute cons nil") => `(tactic| (k_here; refine for_hold ?_ (by intro _; rfl)))
local macro_rules | `(tactic| walk_at "exec For Name Subscript cons nil") => `(tactic| (k_here; refine for_hold ?_ (by intro _; rfl)))
local macro_rules | `(tactic| walk_at "exec For Tuple Name cons nil") => `(tactic| (k_here; refine for_hold ?_ (by intro _; rfl)))
local macro_rules | `(tactic| walk_at "exec For Tuple Call cons nil") => `(tactic| (k_here; refine for_hold ?_ (by intro _; rfl)))
local macro_rules | `(tactic| walk_at "exec For Tuple Attribute cons nil") => `(tactic| (k_here; refine for_hold ?_ (by intro _; rfl)))
local macro_rules | `(tactic| walk_at "setItem ref int ref") => `(tactic| (k_here; (with_reducible show wpAny _ _ (setItem (Value.ref _) (Value.int _ _) _) _ _ _); k_dflt (refine' list_set ?k1 ?k2 ?k3 ?k4 ?k5 ?k6 ?_; (case k1 => k_asm); (case k2 => k_asm); (case k3 => k_upd); (case k4 => omega); (case k5 => ((try simp only [List.length_append, List.length_cons, List.length_nil]); omega)); (case k6 => ((try simp only [List.length_append, List.length_cons, List.length_nil]); omega)); k_whole); intro h' F' N'; (try k_sweep)))
local macro_rules | `(tactic| walk_at "subscriptTail") => `(tactic| (k_here; (with_reducible show wpAny _ _ (subscriptTail _ _ (Value.ref _) (Value.int 0 _)) _ _ _); k_dflt (refine' tup_at0 ?N ?m ?_; (case N => k_asm); (case m => k_mem); k_whole)))
local macro_rules | `(tactic| walk_at "subscriptTail") => `(tactic| (k_here; (with_reducible show wpAny _ _ (subscriptTail _ _ (Value.ref _) (Value.int 1 _)) _ _ _); k_dflt (refine' tup_at1 ?N ?m ?_; (case N => k_asm); (case m => k_mem); k_whole)))
section
variable {prog : Program} {w : World} {p : Program} {loose : List Str} {mean : ExcName → Option Value} {mg mb : Str → Option Value} {dp un : Nat} {gd : Option (List Code)} {cn : Str} {cs : Scope} {a : Addr} {ccd : Value} {cl : List (Str × Addr)} {outer : List Env} {A₀ : Around} {base h₀ : Heap} {L : Addr} {m : Str → Option Value} {s : Shared} {Q E : Value → Shared → Prop}
structure ProgOk (prog : Program) : Prop where
  file : ((prog.main.file : Str) == (Str.ofString "/claim/cut.py")) = true
  sup : (prog.main.scope.names.lookup (Str.ofString "super")).isSome = false
set_option maxRecDepth 100000 in
set_option maxHeartbeats 8000000 in
theorem basic_error_call {news : Led} {code : Str} {tc tl : Tok} {line : Int} (PO : ProgOk prog) (C : Cx w p loose mean mg mb cs outer A₀ base h₀ L m s.heap)
    (N : News h₀ L s.heap news) (hdp : dp + 10 < recursionLimit) (hun : un + 100 < cLine)
    (ret : ∀ e d t od h' tk' mA, Fr h₀ L h' m → News h₀ L h' ((e, bexO d t) :: (d, od) :: (t, tupO [.str code tc]) :: news) → NsObj od mA → mA "code" = some (.str code tc) → e < t → t < d → AllLt t news → (∀ p ∈ news, p.1 ≠ e) → Q (.ref e) { s with heap := h', toks := tk' }) :
    wpAny (model prog w) (ktrTop dp un gd cn cs L a ccd cl outer) (call (.ref 34) [.str code tc, .int line tl]) Q E s := by
  obtain ⟨B, F, X, T, hk⟩ := C
  obtain ⟨hh, g, d, tk, os⟩ := s
  obtain ⟨nm, q, N', bs, sn, sub, ab, col, dd, k0, k1, k2, k3, k5, mN, hC, hn, hi, hm1, hm2, hm3, hm4, hm5⟩ := (bex_34 (X.keeps F.keep)).out
  have hfI := X.keeps F.keep 31 _ rfl
  refine wpAny_call_exc_init PySem.F.excBase_Exception hC hn hi hfI rfl fun h' e hm => ?_
  obtain ⟨t, he, htn, ht⟩ := hm.there
  have F1 : Fr h₀ L h' m := F.keeps hm.keeps
  have hLs : ∃ oL, hh.get? L = some oL := let ⟨oL, _, _, hL, _⟩ := F.ns; ⟨oL, hL⟩
  have up : ∀ b, hh.get? b = none → b ≠ L ∧ h₀.get? b = none := fun b hb => ⟨fun z => (by
    obtain ⟨oL, hL⟩ := hLs
    rw [z, hL] at hb
    cases hb), kts_none (G := hh) F.keep hb⟩
  have N1 : News h₀ L h' ((e, excO 34 t) :: (t, tupO [.str code tc, .int line tl]) :: news) := fun q hq => by
    rcases List.mem_cons.mp hq with rfl | hq
    · exact ⟨he, up _ hm.new⟩
    rcases List.mem_cons.mp hq with rfl | hq
    · exact ⟨ht, up _ htn⟩
    · exact ⟨hm.keeps _ _ (N q hq).1, (N q hq).2⟩
  have off0 : ∀ p ∈ news, p.1 ≠ e := fun p hp z => by
    have a1 := (N p hp).1
    have a2 : hh.get? e = none := hm.new
    have a3 : hh.get? p.1 = some p.2 := a1
    rw [z, a2] at a3
    cases a3
  refine wpAny_call ?_
  refine' ks_code_super (K := Mine.K w.params) B F1 X N1 T ?kA ?kF ?kK ?k6 ?k7 ?k8 ?k9 ?kB ?_ ?c1 ?c2 ?c3 ?c4
  (case kA => exact rfl)
  (case kF => exact rfl)
  (case kK => exact hk)
  (case k6 => k_is)
  (case k7 => k_is)
  (case k8 => show dp + 1 < recursionLimit; omega)
  (case k9 => have XX : (Mine.K w.params).In h' := X.keeps F1.keep; exact binds_K XX rfl (by k_is) rfl rfl rfl)
  (case kB => exact locs rfl)
  (case c1 => decide)
  (case c2 => exact rfl)
  (case c3 => exact rfl)
  (case c4 => exact rfl)
  intro g' L' h2 FG' F' N' B' X' T' l1
  try dsimp only
  try k_fold
  k_steps
  have I : InstAt h2 e (excO 34 t) 34 none := ⟨(N' _ (.head _)).1, rfl, rfl, trivial⟩
  refine ks_node F' X' N' T' (by k_is) (by rfl) (by rfl) I (by k_is) (by rfl) PO.file (by k_is) (by k_is) (by k_is) (by k_is) (by decide) (by rfl) (by rfl) (by rfl) (by rfl) PO.sup (by first | boot_by_name | rfl | kernel_rfl) ?_
  intro so h3 F3 N3 l3
  refine super_meth F3 X' N3 (.head _) (.tail _ (.head _)) ?_
  intro q4 h4 F4 N4 l4
  dsimp only
  refine callWith_wrap (x := e) ?_
  k_steps
  · exact (N4 _ (.head _)).1
  simp only [AllLt] at l4
  refine Hold.mk <| super_call (t := t) (news := (q4, wrapO e) :: news) F4 X' (newsSub N4 (by first | k_allIn)) (List.forall_mem_cons.mpr ⟨Nat.ne_of_gt l4.2.1, off0⟩) (.head _) ?_
  intro D h5 F5 N5 l5
  k_steps
  refine store_code (t := D) (news := (D, tupO [.str code tc]) :: news) F5 X' (newsSub N5 (by first | k_allIn)) (List.forall_mem_cons.mpr ⟨Nat.ne_of_gt l5.1, off0⟩) ?_
  intro d6 od6 h6 tk6 F6 N6 l6 n6
  k_steps
  refine store_told (t := D) (news := (D, tupO [.str code tc]) :: news) F6 X' N6 (Nat.ne_of_gt l6.1) (List.forall_mem_cons.mpr ⟨Nat.ne_of_gt l5.1, off0⟩) (off_of_lt l6.2) n6 ?_
  intro od7 h7 tk7 mA7 F7 N7 n7 c7
  k_steps
  rename_i kF kN _ _
  exact ret e d6 D od7 _ _ _ kF kN n7 c7 l5.1 l6.2.1 l5.2.2 off0
end
local macro_rules | `(tactic| walk_at "compareOp NotIn int ref") => `(tactic| (k_here; k_dflt (first
  | refine kdg_notin (knd := PySem.intKind _ _) (by k_asm) (by assumption) (by assumption) (by assumption) (intKind_is _ _ _ _) true (by assumption) ?_
  | refine kdg_notin (knd := PySem.intKind _ _) (by k_asm) (by assumption) (by assumption) (by assumption) (intKind_is _ _ _ _) false (by assumption) ?_); (try dsimp only [Bool.not_true, Bool.not_false])))
local macro_rules | `(tactic| walk_at "subscriptTail") => `(tactic| (k_here; (with_reducible show wpAny _ _ (subscriptTail _ _ (Value.ref _) (Value.int _ _)) _ _ _); k_dflt (refine kda_item (knd := PySem.intKind _ _) (by k_asm) (by assumption) (by assumption) (intKind_is _ _ _ _) (by assumption) ?_)))
local macro_rules | `(tactic| walk_at "exec Raise some none") => `(tactic| (k_here; refine raise_bex rfl ?_))
local macro_rules | `(tactic| walk_at "subscriptTail") => `(tactic| (k_here; (with_reducible show wpAny _ _ (subscriptTail _ _ (Value.ref _) (Value.int _ _)) _ _ _); k_dflt (refine list_item (by k_asm) (by assumption) (by omega) (by omega) (by assumption) ?_)))
local macro_rules | `(tactic| walk_at "exec While And cons nil") => `(tactic| (k_here; refine while_hold ?_))
local macro_rules | `(tactic| walk_at "exec While BoolOp cons nil") => `(tactic| (k_here; refine while_hold ?_))
local macro_rules | `(tactic| walk_at "exec While") => `(tactic| (k_here; refine while_hold ?_))
section
variable {prog : Program} {w : World} {p : Program} {loose : List Str} {mean : ExcName → Option Value} {mg mb : Str → Option Value} {dp un : Nat} {gd : Option (List Code)} {cn : Str} {cs : Scope} {a : Addr} {ccd : Value} {cl : List (Str × Addr)} {outer : List Env} {A₀ : Around} {base h₀ : Heap} {L : Addr} {m : Str → Option Value} {s : Shared} {Q E : Value → Shared → Prop}
set_option maxRecDepth 100000 in
set_option maxHeartbeats 8000000 in
theorem place_of_hit {f : FA} {news : Led} {o : Obj} {kvs : List (Int × Value)} {line : Int} {lt : Tok} {v : Value} (C : Cx w p loose mean mg mb cs outer A₀ base h₀ L m s.heap)
    (N : News h₀ L s.heap news) (hf : FlatIn w.params f news) (D : DictIn prog w news f.places o kvs) (hv : valueAt kvs line = some v) (hdp : dp + 10 < recursionLimit) (hun : un + 100 < cLine)
    (ret : ∀ h' tk', Fr h₀ L h' m → News h₀ L h' news → Q v { s with heap := h', toks := tk' }) :
    wpAny (model prog w) (ktrTop dp un gd cn cs L a ccd cl outer) (call (.ref 114) [.ref f.o, .int line lt]) Q E s := by
  obtain ⟨B, F, X, TP, hk⟩ := C
  obtain ⟨hfo, hfd⟩ := hf
  obtain ⟨hm, hd, hlo⟩ := D
  have hb : (valueAt kvs line).isSome = true := by rw [hv]; rfl
  refine wpAny_call ?_
  k_dflt ktr_enter
  k_steps
  rename_i kF kN _ _
  exact ret _ _ kF kN
set_option maxRecDepth 100000 in
set_option maxHeartbeats 8000000 in
theorem place_of_miss {f : FA} {news : Led} {o : Obj} {kvs : List (Int × Value)} {line : Int} {lt : Tok} (PO : ProgOk prog) (C : Cx w p loose mean mg mb cs outer A₀ base h₀ L m s.heap)
    (N : News h₀ L s.heap news) (hf : FlatIn w.params f news) (D : DictIn prog w news f.places o kvs) (hv : valueAt kvs line = none) (hdp : dp + 20 < recursionLimit) (hun : un + 300 < cLine)
    (err : ∀ e d t od tc h' tk' mA, Flies h₀ L m (envX cn cs L a ccd cl) outer news e d t od h' → NsObj od mA → mA "code" = some (.str (Str.ofString "UL") tc) → E (.ref e) { s with heap := h', toks := tk' }) :
    wpAny (model prog w) (ktrTop dp un gd cn cs L a ccd cl outer) (call (.ref 114) [.ref f.o, .int line lt]) Q E s := by
  obtain ⟨B, F, X, TP, hk⟩ := C
  obtain ⟨hfo, hfd⟩ := hf
  obtain ⟨hm, hd, hlo⟩ := D
  have hb : (valueAt kvs line).isSome = false := by rw [hv]; rfl
  refine wpAny_call ?_
  k_dflt ktr_enter
  k_steps
  refine Hold.mk (basic_error_call PO ⟨by assumption, by assumption, by assumption, by assumption, rfl⟩ (by assumption) (by dsimp only [ktrTop, Around.deeper]; omega) (by dsimp only [ktrTop, Around.deeper]; omega) ?_)
  intro e d t od h2 tk2 mA F2 N2 n2 c2 l1 l2 l3 off
  rename_i FG9 F9 N9 B9 X9 T9 _
  refine ⟨e, d, t, rfl, bex_34 (X9.keeps F2.keep), (N2 _ (.head _)).1, ?_⟩
  refine leave_bex (m₀ := m) (news := news) B9 F2 rfl rfl rfl FG9 B.frames (newsSub N2 (by first | k_allIn)) (Nat.ne_of_gt (Nat.lt_trans l1 l2)) off fun h3 R => ?_
  exact err _ _ _ _ _ _ _ _ R n2 c2
end
section
variable {prog : Program} {w : World} {p : Program} {loose : List Str} {mean : ExcName → Option Value} {mg mb : Str → Option Value} {dp un : Nat} {gd : Option (List Code)} {cn : Str} {cs : Scope} {a : Addr} {ccd : Value} {cl : List (Str × Addr)} {outer : List Env} {A₀ : Around} {base h₀ : Heap} {L : Addr} {m : Str → Option Value} {s : Shared} {Q E : Value → Shared → Prop}
set_option maxRecDepth 100000 in
set_option maxHeartbeats 8000000 in
theorem line_of_call {f : FA} {news : Led} {its : List Value} {n row : Nat} {b : Addr} {line : Int} {t rt : Tok} {tl : List Value} (C : Cx w p loose mean mg mb cs outer A₀ base h₀ L m s.heap)
    (N : News h₀ L s.heap news) (hf : FlatIn w.params f news) (hr : (f.rows, lstO its n) ∈ news) (hx : its[row]? = some (.ref b)) (hb : (b, tupO (.int line t :: tl)) ∈ news) (hsz : its.length < 100000) (hdp : dp + 10 < recursionLimit) (hun : un + 100 < cLine)
    (ret : ∀ h' tk', Fr h₀ L h' m → News h₀ L h' news → Q (.int line t) { s with heap := h', toks := tk' }) :
    wpAny (model prog w) (ktrTop dp un gd cn cs L a ccd cl outer) (call (.ref 121) [.ref f.o, .int row rt]) Q E s := by
  obtain ⟨B, F, X, TP, hk⟩ := C
  obtain ⟨hfo, hfd⟩ := hf
  have hlt : row < its.length := (List.getElem?_eq_some_iff.mp hx).1
  have hx' : its[((row : Nat) : Int).toNat]? = some (.ref b) := by rw [Int.toNat_natCast]; exact hx
  refine wpAny_call ?_
  k_dflt ktr_enter
  k_steps
  rename_i kF kN _ _
  exact ret _ _ kF kN
end
section
variable {prog : Program} {w : World} {p : Program} {loose : List Str} {mean : ExcName → Option Value} {mg mb : Str → Option Value} {dp un : Nat} {gd : Option (List Code)} {cn : Str} {cs : Scope} {a : Addr} {ccd : Value} {cl : List (Str × Addr)} {outer : List Env} {A₀ : Around} {base h₀ : Heap} {L : Addr} {m : Str → Option Value} {s : Shared} {Q E : Value → Shared → Prop}
set_option maxRecDepth 100000 in
set_option maxHeartbeats 8000000 in
theorem end_of_while_hit {f : FA} {news : Led} {o : Obj} {kvs : List (Int × Value)} {row : Nat} {lt : Tok} {v : Value} (C : Cx w p loose mean mg mb cs outer A₀ base h₀ L m s.heap)
    (N : News h₀ L s.heap news) (hf : FlatIn w.params f news) (D : DictIn prog w news f.pairs o kvs) (hv : valueAt kvs (row : Int) = some v) (hdp : dp + 10 < recursionLimit) (hun : un + 100 < cLine)
    (ret : ∀ h' tk', Fr h₀ L h' m → News h₀ L h' news → Q v { s with heap := h', toks := tk' }) :
    wpAny (model prog w) (ktrTop dp un gd cn cs L a ccd cl outer) (call (.ref 135) [.ref f.o, .int row lt]) Q E s := by
  obtain ⟨B, F, X, TP, hk⟩ := C
  obtain ⟨hfo, hfd⟩ := hf
  obtain ⟨hm, hd, hlo⟩ := D
  have hb : (valueAt kvs (row : Int)).isSome = true := by rw [hv]; rfl
  refine wpAny_call ?_
  k_dflt ktr_enter
  k_steps
  rename_i kF kN _ _
  exact ret _ _ kF kN
set_option maxRecDepth 100000 in
set_option maxHeartbeats 8000000 in
theorem end_of_while_miss {f : FA} {news : Led} {o : Obj} {kvs : List (Int × Value)} {its : List Value} {n row : Nat} {b : Addr} {line : Int} {t lt : Tok} {tl : List Value} (PO : ProgOk prog) (C : Cx w p loose mean mg mb cs outer A₀ base h₀ L m s.heap)
    (N : News h₀ L s.heap news) (hf : FlatIn w.params f news) (D : DictIn prog w news f.pairs o kvs) (hv : valueAt kvs (row : Int) = none)
    (hr : (f.rows, lstO its n) ∈ news) (hx : its[row]? = some (.ref b)) (hb : (b, tupO (.int line t :: tl)) ∈ news) (hsz : its.length < 100000) (hdp : dp + 20 < recursionLimit) (hun : un + 300 < cLine)
    (err : ∀ e d t od tc h' tk' mA, Flies h₀ L m (envX cn cs L a ccd cl) outer news e d t od h' → NsObj od mA → mA "code" = some (.str (Str.ofString "WE") tc) → E (.ref e) { s with heap := h', toks := tk' }) :
    wpAny (model prog w) (ktrTop dp un gd cn cs L a ccd cl outer) (call (.ref 135) [.ref f.o, .int row lt]) Q E s := by
  obtain ⟨B, F, X, TP, hk⟩ := C
  have hf' := hf
  obtain ⟨hfo, hfd⟩ := hf
  obtain ⟨hm, hd, hlo⟩ := D
  have hb0 : (valueAt kvs (row : Int)).isSome = false := by rw [hv]; rfl
  refine wpAny_call ?_
  k_dflt ktr_enter
  k_steps
  refine Hold.mk (line_of_call ⟨by assumption, by assumption, by assumption, by assumption, rfl⟩ (by assumption) hf' hr hx hb hsz (by dsimp only [ktrTop, Around.deeper]; omega) (by dsimp only [ktrTop, Around.deeper]; omega) ?_)
  intro h5 tk5 F5 N5
  k_steps
  refine Hold.mk (basic_error_call PO ⟨by assumption, by assumption, by assumption, by assumption, rfl⟩ (by assumption) (by dsimp only [ktrTop, Around.deeper]; omega) (by dsimp only [ktrTop, Around.deeper]; omega) ?_)
  intro e d t od h2 tk2 mA F2 N2 n2 c2 l1 l2 l3 off
  rename_i FG9 _ _ B9 X9 _ _
  refine ⟨e, d, t, rfl, bex_34 (X9.keeps F2.keep), (N2 _ (.head _)).1, ?_⟩
  refine leave_bex (m₀ := m) (news := news) B9 F2 rfl rfl rfl FG9 B.frames (newsSub N2 (by first | k_allIn)) (Nat.ne_of_gt (Nat.lt_trans l1 l2)) off fun h3 R => ?_
  exact err _ _ _ _ _ _ _ _ R n2 c2
set_option maxRecDepth 100000 in
set_option maxHeartbeats 8000000 in
theorem next_of_for_hit {f : FA} {news : Led} {o : Obj} {kvs : List (Int × Value)} {row : Nat} {lt : Tok} {v : Value} (C : Cx w p loose mean mg mb cs outer A₀ base h₀ L m s.heap)
    (N : News h₀ L s.heap news) (hf : FlatIn w.params f news) (D : DictIn prog w news f.loops o kvs) (hv : valueAt kvs (row : Int) = some v) (hdp : dp + 10 < recursionLimit) (hun : un + 100 < cLine)
    (ret : ∀ h' tk', Fr h₀ L h' m → News h₀ L h' news → Q v { s with heap := h', toks := tk' }) :
    wpAny (model prog w) (ktrTop dp un gd cn cs L a ccd cl outer) (call (.ref 142) [.ref f.o, .int row lt]) Q E s := by
  obtain ⟨B, F, X, TP, hk⟩ := C
  obtain ⟨hfo, hfd⟩ := hf
  obtain ⟨hm, hd, hlo⟩ := D
  have hb : (valueAt kvs (row : Int)).isSome = true := by rw [hv]; rfl
  refine wpAny_call ?_
  k_dflt ktr_enter
  k_steps
  rename_i kF kN _ _
  exact ret _ _ kF kN
set_option maxRecDepth 100000 in
set_option maxHeartbeats 8000000 in
theorem next_of_for_miss {f : FA} {news : Led} {o : Obj} {kvs : List (Int × Value)} {its : List Value} {n row : Nat} {b : Addr} {line : Int} {t lt : Tok} {tl : List Value} (PO : ProgOk prog) (C : Cx w p loose mean mg mb cs outer A₀ base h₀ L m s.heap)
    (N : News h₀ L s.heap news) (hf : FlatIn w.params f news) (D : DictIn prog w news f.loops o kvs) (hv : valueAt kvs (row : Int) = none)
    (hr : (f.rows, lstO its n) ∈ news) (hx : its[row]? = some (.ref b)) (hb : (b, tupO (.int line t :: tl)) ∈ news) (hsz : its.length < 100000) (hdp : dp + 20 < recursionLimit) (hun : un + 300 < cLine)
    (err : ∀ e d t od tc h' tk' mA, Flies h₀ L m (envX cn cs L a ccd cl) outer news e d t od h' → NsObj od mA → mA "code" = some (.str (Str.ofString "NF") tc) → E (.ref e) { s with heap := h', toks := tk' }) :
    wpAny (model prog w) (ktrTop dp un gd cn cs L a ccd cl outer) (call (.ref 142) [.ref f.o, .int row lt]) Q E s := by
  obtain ⟨B, F, X, TP, hk⟩ := C
  have hf' := hf
  obtain ⟨hfo, hfd⟩ := hf
  obtain ⟨hm, hd, hlo⟩ := D
  have hb0 : (valueAt kvs (row : Int)).isSome = false := by rw [hv]; rfl
  refine wpAny_call ?_
  k_dflt ktr_enter
  k_steps
  refine Hold.mk (line_of_call ⟨by assumption, by assumption, by assumption, by assumption, rfl⟩ (by assumption) hf' hr hx hb hsz (by dsimp only [ktrTop, Around.deeper]; omega) (by dsimp only [ktrTop, Around.deeper]; omega) ?_)
  intro h5 tk5 F5 N5
  k_steps
  refine Hold.mk (basic_error_call PO ⟨by assumption, by assumption, by assumption, by assumption, rfl⟩ (by assumption) (by dsimp only [ktrTop, Around.deeper]; omega) (by dsimp only [ktrTop, Around.deeper]; omega) ?_)
  intro e d t od h2 tk2 mA F2 N2 n2 c2 l1 l2 l3 off
  rename_i FG9 _ _ B9 X9 _ _
  refine ⟨e, d, t, rfl, bex_34 (X9.keeps F2.keep), (N2 _ (.head _)).1, ?_⟩
  refine leave_bex (m₀ := m) (news := news) B9 F2 rfl rfl rfl FG9 B.frames (newsSub N2 (by first | k_allIn)) (Nat.ne_of_gt (Nat.lt_trans l1 l2)) off fun h3 R => ?_
  exact err _ _ _ _ _ _ _ _ R n2 c2
end
section
variable {prog : Program} {w : World} {p : Program} {loose : List Str} {mean : ExcName → Option Value} {mg mb : Str → Option Value} {dp un : Nat} {gd : Option (List Code)} {cn : Str} {cs : Scope} {a : Addr} {ccd : Value} {cl : List (Str × Addr)} {outer : List Env} {A₀ : Around} {base h₀ : Heap} {L : Addr} {m : Str → Option Value} {s : Shared} {Q E : Value → Shared → Prop}
noncomputable def LinesAt (imm : Led) (its : List Value) (ln : Nat → Int) : Prop := ∀ i (h : i < its.length), ∃ b t tl, its[i] = .ref b ∧ (b, tupO (.int (ln i) t :: tl)) ∈ imm
noncomputable abbrev put1 (x : Str) (v : Value) (m : Str → Option Value) : Str → Option Value := fun y => if y = x then some v else m y
theorem put1_put1 {x : Str} {v v' : Value} {m : Str → Option Value} : put1 x v (put1 x v' m) = put1 x v m := by
  funext y; unfold put1; by_cases h : y = x <;> simp [h]
theorem put1_self {x : Str} {v : Value} {m : Str → Option Value} (h : m x = some v) : put1 x v m = m := by
  funext y; unfold put1; by_cases e : y = x <;> simp [e, h]
noncomputable def TurnW1 (s : Shared) (h₀ : Heap) (L : Addr) (news : Led) (x : Str) (v : Value) (m : Str → Option Value) (c : Nat) (J : Nat → Value → Prop) (f : Flow) (s₃ : Shared) : Prop :=
  f = .next ∧ ∃ c' v' h' tk', c' < c ∧ s₃ = { s with heap := h', toks := tk' } ∧ Fr h₀ L h' (put1 x v' (put1 x v m)) ∧ News h₀ L h' news ∧ J c' v'
theorem loopW1 {A : Around} {env : Env} {news : Led} {test : Expr} {body : List Stmt} {Q : Flow → Shared → Prop} {E : Value → Shared → Prop} (x : Str) (J : Nat → Value → Prop) (c : Nat) {v0 : Value} (F : Fr h₀ env.locals s.heap m) (N : News h₀ env.locals s.heap news) (hv : m x = some v0) (h0 : J c v0)
    (turn : ∀ c v h tk, J c v → Fr h₀ env.locals h (put1 x v m) → News h₀ env.locals h news →
      wpAny (model prog w) A (isTrue test env (eval test env)) (fun b s₂ => if b then wpAny (model prog w) A (execs body env) (TurnW1 s h₀ env.locals news x v m c J) (fun _ _ => False) s₂ else Q .next s₂) (fun _ _ => False) { s with heap := h, toks := tk }) :
    codeAny (model prog w) A (.whileLoop test body [] env) (fun r s' => match r with | .ok f => Q f s' | .error e => cameBackBy (model prog w) A env E e s') s :=
  loopW (fun c m₁ => ∃ v, m₁ = put1 x v m ∧ J c v) c F N ⟨v0, (put1_self hv).symm, h0⟩ fun c m₁ h tk ⟨v, e, j⟩ F₁ N₁ => by
    subst e
    refine wpAny_mono (turn c v h tk j F₁ N₁) (fun b s₂ hb => ?_) fun _ _ x => x
    cases b with
    | true =>
      simp only [if_true] at hb ⊢
      refine wpAny_mono hb (fun f s₃ hf => ?_) fun _ _ x => x
      obtain ⟨e, c', v', h', tk', lt, e2, F₂, N₂, j₂⟩ := hf
      exact ⟨e, c', _, h', tk', lt, e2, put1_put1 ▸ F₂, N₂, v', rfl, j₂⟩
    | false => exact hb
set_option maxRecDepth 100000 in
set_option maxHeartbeats 8000000 in
theorem next_line_call {f : FA} {news : Led} {its : List Value} {n row : Nat} {ln : Nat → Int} {rt : Tok} (C : Cx w p loose mean mg mb cs outer A₀ base h₀ L m s.heap)
    (N : News h₀ L s.heap news) (hf : FlatIn w.params f news) (hr : (f.rows, lstO its n) ∈ news) (hln : LinesAt news its ln) (hlt : row < its.length) (hsz : its.length < 100000) (hdp : dp + 20 < recursionLimit) (hun : un + 300 < cLine)
    (ret : ∀ (r : Nat) t h' tk', row ≤ r → r ≤ its.length → (∀ j, row ≤ j → j < r → ln j = ln row) → Fr h₀ L h' m → News h₀ L h' news → Q (.int r t) { s with heap := h', toks := tk' }) :
    wpAny (model prog w) (ktrTop dp un gd cn cs L a ccd cl outer) (call (.ref 128) [.ref f.o, .int row rt]) Q E s := by
  obtain ⟨B, F, X, TP, hk⟩ := C
  have hf' := hf
  obtain ⟨hfo, hfd⟩ := hf
  obtain ⟨b0, t0, tl0, e0, hb0⟩ := hln row hlt
  refine wpAny_call ?_
  k_dflt ktr_enter
  k_steps
  refine Hold.mk (line_of_call ⟨by assumption, by assumption, by assumption, by assumption, rfl⟩ (by assumption) hf' hr (List.getElem?_eq_some_iff.mpr ⟨hlt, e0⟩) hb0 hsz (by dsimp only [ktrTop, Around.deeper]; omega) (by dsimp only [ktrTop, Around.deeper]; omega) ?_)
  intro h5 tk5 F5 N5
  k_steps
  rename_i F9 N9
  refine Hold.mk (loopW1 (Str.ofString "row") (fun c v => ∃ (r : Nat) (t : Tok), v = .int r t ∧ row ≤ r ∧ r ≤ its.length ∧ c = its.length - r ∧ ∀ j, row ≤ j → j < r → ln j = ln row) (its.length - row) F9 N9 rfl ⟨row, rt, rfl, Nat.le_refl _, Nat.le_of_lt hlt, rfl, fun j a b => absurd a (by omega)⟩ ?_)
  rintro c _ h tk ⟨r, t, rfl, r1, r2, rfl, rj⟩ F₁ N₁
  k_steps
  · rename_i a9
    have hlt9 : r < its.length := by simpa using a9
    obtain ⟨b9, t9, tl9, e9, hb9⟩ := hln r hlt9
    have hx' : its[((r : Nat) : Int).toNat]? = some (.ref b9) := by rw [Int.toNat_natCast]; exact List.getElem?_eq_some_iff.mpr ⟨hlt9, e9⟩
    k_steps
    rename_i e5 _ F5 N5
    refine ⟨rfl, its.length - (r + 1), .int ((r + 1 : Nat) : Int) _, _, _, by omega, rfl, F5, N5, r + 1, _, rfl, by omega, by omega, rfl, fun j z1 z2 => ?_⟩
    by_cases z : j = r
    · rw [z]; exact e5
    · exact rj j z1 (by omega)
    rename_i kF kN _ _
    exact ret r t _ _ r1 r2 rj kF kN
  · rename_i kF kN _ _
    exact ret r t _ _ r1 r2 rj kF kN
end
section
variable {prog : Program} {w : World} {A : Around} {E : Value → Shared → Prop} {s : Shared} {h₀ : Heap} {L D : Addr} {m : Str → Option Value} {news news' : Led} {vs : List Value} {n : Nat} {v y : Value}
theorem list_pop {Q : Value → Shared → Prop} (F : Fr h₀ L s.heap m) (N : News h₀ L s.heap news) (U : Upd D (lstO (vs ++ [y]) n) (lstO vs (n + 1)) news news') (hz : vs.length < 100000)
    (h : ∀ h', Fr h₀ L h' m → News h₀ L h' news' → Q y { s with heap := h' }) : wpAny (model prog w) A (call (.builtin "list.pop") [.ref D]) Q E s :=
  kl_pop (its := (vs ++ [y]).toArray) (p := vs) F N (by rw [List.toList_toArray]; exact kl_last_snoc) U (by rw [sizeLine_eq, List.toList_toArray, List.length_append, List.length_singleton]; omega) h
end
section
variable {K α : Type} [DecidableEq K]
noncomputable def putA (l : List (K × α)) (k : K) (x : α) : List (K × α) := if l.any (fun p => p.1 = k) then l.map (fun p => if p.1 = k then (p.1, x) else p) else l ++ [(k, x)]
noncomputable def atA (l : List (K × α)) (k : K) : Option α := (l.find? fun p => p.1 = k).map (·.2)
inductive Two {α β : Type} (R : α → β → Prop) : List α → List β → Prop
  | nil : Two R [] []
  | cons {a : α} {b : β} {as : List α} {bs : List β} : R a b → Two R as bs → Two R (a :: as) (b :: bs)
theorem Two.mono {α β : Type} {R S : α → β → Prop} {as : List α} {bs : List β} (hs : ∀ a b, R a b → S a b) (h : Two R as bs) : Two S as bs := by
  induction h with
  | nil => exact .nil
  | cons h _ ih => exact .cons (hs _ _ h) ih
theorem Two.append {α β : Type} {R : α → β → Prop} {as as' : List α} {bs bs' : List β} (h : Two R as bs) (h' : Two R as' bs') : Two R (as ++ as') (bs ++ bs') := by
  induction h with
  | nil => exact h'
  | cons h _ ih => exact .cons h ih
theorem Two.length {α β : Type} {R : α → β → Prop} {as : List α} {bs : List β} (h : Two R as bs) : as.length = bs.length := by
  induction h with
  | nil => rfl
  | cons _ _ ih => simp [ih]
noncomputable abbrev KV (R : Value → α → Prop) : K × Value → K × α → Prop := fun a b => a.1 = b.1 ∧ R a.2 b.2
theorem kv_any {R : Value → α → Prop} {kvs : List (K × Value)} {ls : List (K × α)} (h : Two (KV R) kvs ls) (k : K) : kvs.any (fun p => p.1 = k) = ls.any (fun p => p.1 = k) := by
  induction h with
  | nil => rfl
  | cons h _ ih => simp only [List.any_cons, ih, h.1]
theorem kv_stored {R : Value → α → Prop} {kvs : List (K × Value)} {ls : List (K × α)} (h : Two (KV R) kvs ls) {k : K} {v : Value} {x : α} (hv : R v x) : Two (KV R) (stored kvs k v) (putA ls k x) := by
  have hm : Two (KV R) (kvs.map fun p => if p.1 = k then (p.1, v) else p) (ls.map fun p => if p.1 = k then (p.1, x) else p) := by
    induction h with
    | nil => exact .nil
    | cons h _ ih =>
      refine .cons ?_ ih
      dsimp only
      rw [h.1]
      split
      · exact ⟨rfl, hv⟩
      · exact h
  unfold stored putA
  rw [kv_any h k]
  split
  · exact hm
  · exact h.append (.cons ⟨rfl, hv⟩ .nil)
theorem kv_at {R : Value → α → Prop} {kvs : List (K × Value)} {ls : List (K × α)} (h : Two (KV R) kvs ls) (k : K) : (∃ v x, valueAt kvs k = some v ∧ atA ls k = some x ∧ R v x) ∨ (valueAt kvs k = none ∧ atA ls k = none) := by
  induction h with
  | nil => exact .inr ⟨rfl, rfl⟩
  | cons h _ ih =>
    unfold valueAt atA at ih ⊢
    simp only [List.find?_cons]
    rw [h.1]
    split
    · exact .inl ⟨_, _, rfl, rfl, h.2⟩
    · exact ih
end
inductive IntsV : List Value → List Nat → Prop
  | nil : IntsV [] []
  | snoc {vs : List Value} {ns : List Nat} {n : Nat} {t : Tok} : IntsV vs ns → IntsV (vs ++ [.int (n : Int) t]) (n :: ns)
theorem IntsV.length {vs : List Value} {ns : List Nat} (h : IntsV vs ns) : vs.length = ns.length := by
  induction h with
  | nil => rfl
  | snoc _ ih => simp [ih]
noncomputable abbrev NatV (v : Value) (n : Nat) : Prop := ∃ t, v = .int (n : Int) t
noncomputable def PairV (imm : Led) (v : Value) (x : Nat × Nat) : Prop := ∃ tu t1 t2, v = .ref tu ∧ (tu, tupO [.int (x.1 : Int) t1, .int (x.2 : Int) t2]) ∈ imm
theorem PairV.mono {imm imm' : Led} {v : Value} {x : Nat × Nat} (hs : ∀ p ∈ imm, p ∈ imm') (h : PairV imm v x) : PairV imm' v x := let ⟨tu, t1, t2, e, m⟩ := h; ⟨tu, t1, t2, e, hs _ m⟩
noncomputable def joinL (at_ : Nat) (ws : List Nat) (ps : List (Int × Nat)) : List Nat × List (Int × Nat) := match ws with
  | [] => ([], ps)
  | b :: r => (r, putA (putA ps (b : Int) at_) (at_ : Int) b)
noncomputable def endL (at_ : Nat) : Nat → Nat → List Nat → List (Int × (Nat × Nat)) → List Nat × List (Int × (Nat × Nat))
  | 0, _, fs, ls => (fs, ls)
  | _ + 1, _, [], ls => ([], ls)
  | k + 1, wh, f :: fs, ls => endL at_ k (wh + 1) fs (putA ls (f : Int) (at_, wh))
theorem endL_nil (at_ : Nat) (k wh : Nat) (ls : List (Int × (Nat × Nat))) : endL at_ k wh [] ls = ([], ls) := by cases k <;> rfl
theorem putA_le {K α : Type} [DecidableEq K] (l : List (K × α)) (k : K) (x : α) : (putA l k x).length ≤ l.length + 1 := by
  unfold putA; split <;> simp
structure GS where
  whiles : List Nat
  fors : List Nat
  heads : List Nat
  pairs : List (Int × Nat)
  loops : List (Int × (Nat × Nat))
  fns : List (Str × Nat)
  data : List (Int × Str)
noncomputable def GS.zero : GS := ⟨[], [], [], [], [], [], []⟩
noncomputable def gstep (line : Int) (at_ : Nat) (g : GS) : RK → GS
  | .leaf _ (.data t) => { g with data := g.data ++ [(line, t), (line, Str.ofString "b")] }
  | .leaf _ .whil => { g with whiles := at_ :: g.whiles }
  | .leaf _ .wend => { g with whiles := (joinL at_ g.whiles g.pairs).1, pairs := (joinL at_ g.whiles g.pairs).2 }
  | .leaf _ (.deff n) => { g with heads := at_ :: g.heads, fns := if (atA g.fns n).isSome then g.fns else putA g.fns n at_ }
  | .leaf _ .fnend => { g with heads := (joinL at_ g.heads g.pairs).1, pairs := (joinL at_ g.heads g.pairs).2 }
  | .leaf _ .forr => { g with fors := at_ :: g.fors }
  | .leaf _ (.next k) => { g with fors := (endL at_ (max 1 k) 0 g.fors g.loops).1, loops := (endL at_ (max 1 k) 0 g.fors g.loops).2 }
  | _ => g
noncomputable def gfold : Nat → GS → List (Int × RK) → GS
  | _, g, [] => g
  | i, g, r :: rs => gfold (i + 1) (gstep r.1 i g r.2) rs
noncomputable abbrev RowsL (imm : Led) (vals : List Value) (rows : List (Int × RK)) : Prop := Two (fun v r => RowAt imm r.1 v r.2) vals rows
noncomputable def DataV (imm : Led) (v : Value) (x : Int × Str) : Prop := ∃ tu t1 k, v = .ref tu ∧ (tu, tupO [.int x.1 t1, .str x.2 k]) ∈ imm
theorem DataV.mono {imm imm' : Led} {v : Value} {x : Int × Str} (hs : ∀ p ∈ imm, p ∈ imm') (h : DataV imm v x) : DataV imm' v x := let ⟨tu, t1, k, e, m⟩ := h; ⟨tu, t1, k, e, hs _ m⟩
section
variable {r : RK}
theorem is_data (h : r.word = Str.ofString "DATA") : ∃ v t, r = .leaf v (.data t) := by
  cases r with
  | leaf v l => cases l <;> first | exact ⟨_, _, rfl⟩ | exact absurd h (by simp only [RK.word, Lf.word]; decide)
  | _ => exact absurd h (by simp only [RK.word]; decide)
theorem is_while (h : r.word = Str.ofString "WHILE") : ∃ v, r = .leaf v .whil := by
  cases r with
  | leaf v l => cases l <;> first | exact ⟨_, rfl⟩ | exact absurd h (by simp only [RK.word, Lf.word]; decide)
  | _ => exact absurd h (by simp only [RK.word]; decide)
theorem is_wend (h : r.word = Str.ofString "WEND") : ∃ v, r = .leaf v .wend := by
  cases r with
  | leaf v l => cases l <;> first | exact ⟨_, rfl⟩ | exact absurd h (by simp only [RK.word, Lf.word]; decide)
  | _ => exact absurd h (by simp only [RK.word]; decide)
theorem is_def (h : r.word = Str.ofString "DEFLINES") : ∃ v n, r = .leaf v (.deff n) := by
  cases r with
  | leaf v l => cases l <;> first | exact ⟨_, _, rfl⟩ | exact absurd h (by simp only [RK.word, Lf.word]; decide)
  | _ => exact absurd h (by simp only [RK.word]; decide)
theorem is_fnend (h : r.word = Str.ofString "FNEND") : ∃ v, r = .leaf v .fnend := by
  cases r with
  | leaf v l => cases l <;> first | exact ⟨_, rfl⟩ | exact absurd h (by simp only [RK.word, Lf.word]; decide)
  | _ => exact absurd h (by simp only [RK.word]; decide)
theorem is_for (h : r.word = Str.ofString "FOR") : ∃ v, r = .leaf v .forr := by
  cases r with
  | leaf v l => cases l <;> first | exact ⟨_, rfl⟩ | exact absurd h (by simp only [RK.word, Lf.word]; decide)
  | _ => exact absurd h (by simp only [RK.word]; decide)
theorem is_next (h : r.word = Str.ofString "NEXT") : ∃ v k, r = .leaf v (.next k) := by
  cases r with
  | leaf v l => cases l <;> first | exact ⟨_, _, rfl⟩ | exact absurd h (by simp only [RK.word, Lf.word]; decide)
  | _ => exact absurd h (by simp only [RK.word]; decide)
theorem gstep_else {line : Int} {i : Nat} {g : GS} (h1 : ¬ r.word = Str.ofString "DATA") (h2 : ¬ r.word = Str.ofString "WHILE") (h3 : ¬ r.word = Str.ofString "WEND") (h4 : ¬ r.word = Str.ofString "DEFLINES") (h5 : ¬ r.word = Str.ofString "FNEND")
    (h6 : ¬ r.word = Str.ofString "FOR") (h7 : ¬ r.word = Str.ofString "NEXT") : gstep line i g r = g := by
  cases r with
  | leaf v l => cases l <;> first | rfl | exact absurd rfl h1 | exact absurd rfl h2 | exact absurd rfl h3 | exact absurd rfl h4 | exact absurd rfl h5 | exact absurd rfl h6 | exact absurd rfl h7
  | _ => rfl
end
structure GRep (prog : Program) (w : World) (imm : Led) (g : GS) (vw vf vh dv : List Value) (oP oL oF : Obj) : Prop where
  wh : IntsV vw g.whiles
  fo : IntsV vf g.fors
  he : IntsV vh g.heads
  pa : ∃ kvs, oP.IsDictOf (PySem.intKind prog w) kvs ∧ Two (KV NatV) kvs g.pairs
  lo : ∃ kvs, oL.IsDictOf (PySem.intKind prog w) kvs ∧ Two (KV (PairV imm)) kvs g.loops
  fn : ∃ kvs, oF.IsDictOf (PySem.strKind prog w) kvs ∧ Two (KV NatV) kvs g.fns
  da : Two (DataV imm) dv g.data
theorem GRep.mono {prog : Program} {w : World} {imm imm' : Led} {g : GS} {vw vf vh dv : List Value} {oP oL oF : Obj} (G : GRep prog w imm g vw vf vh dv oP oL oF) (hs : ∀ p ∈ imm, p ∈ imm') : GRep prog w imm' g vw vf vh dv oP oL oF :=
  ⟨G.wh, G.fo, G.he, G.pa, (let ⟨k, a, b⟩ := G.lo; ⟨k, a, b.mono fun _ _ h => ⟨h.1, h.2.mono hs⟩⟩), G.fn, G.da.mono fun _ _ h => h.mono hs⟩
noncomputable def GS.tot (g : GS) : Nat := g.whiles.length + (g.fors.length + g.loops.length) + g.heads.length + g.pairs.length + g.fns.length + g.data.length
theorem joinL_len (i : Nat) (ws : List Nat) (ps : List (Int × Nat)) : (joinL i ws ps).1.length + (joinL i ws ps).2.length ≤ ws.length + ps.length + 2 := by
  cases ws with
  | nil => exact Nat.le_add_right _ _
  | cons b r =>
    have h1 := putA_le ps (b : Int) i
    have h2 := putA_le (putA ps (b : Int) i) (i : Int) b
    show r.length + (putA (putA ps (b : Int) i) (i : Int) b).length ≤ r.length + 1 + _ + 2
    omega
theorem endL_len (i : Nat) : ∀ (k wh : Nat) (fs : List Nat) (ls : List (Int × (Nat × Nat))), (endL i k wh fs ls).1.length + (endL i k wh fs ls).2.length ≤ fs.length + ls.length
  | 0, _, _, _ => Nat.le_refl _
  | _ + 1, _, [], _ => Nat.le_refl _
  | k + 1, wh, f :: fs, ls => by
    have h1 := endL_len i k (wh + 1) fs (putA ls (f : Int) (i, wh))
    have h2 := putA_le ls (f : Int) (i, wh)
    rw [endL, List.length_cons]
    omega
theorem tot1 {a a' b c d d' e f : Nat} (h : a' + d' ≤ a + d + 2) : a' + b + c + d' + e + f ≤ a + b + c + d + e + f + 2 := by omega
theorem tot2 {a b c c' d d' e e' f : Nat} (h : c' + d' ≤ c + d + 1) (h2 : e' ≤ e + 1) : a + b + c' + d' + e' + f ≤ a + b + c + d + e + f + 2 := by omega
theorem tot3 {a b b' c d e f : Nat} (h : b' ≤ b + 2) : a + b' + c + d + e + f ≤ a + b + c + d + e + f + 2 := by omega
theorem tot4 {a b c c' d d' e f : Nat} (h : c' + d' ≤ c + d + 2) : a + b + c' + d' + e + f ≤ a + b + c + d + e + f + 2 := by omega
theorem tot6 {a b b2 c d e f n : Nat} (h : a + (b + b2) + c + d + e + f < n) : a < n ∧ b < n ∧ c < n ∧ f < n ∧ d < n ∧ b2 < n ∧ e < n :=
  have h1 := Nat.lt_of_le_of_lt (Nat.le_add_right _ f) h
  have h2 := Nat.lt_of_le_of_lt (Nat.le_add_right _ e) h1
  have h3 := Nat.lt_of_le_of_lt (Nat.le_add_right _ d) h2
  have h4 := Nat.lt_of_le_of_lt (Nat.le_add_right _ c) h3
  have h5 := Nat.lt_of_le_of_lt (Nat.le_add_left _ a) h4
  ⟨Nat.lt_of_le_of_lt (Nat.le_add_right _ _) h4, Nat.lt_of_le_of_lt (Nat.le_add_right _ _) h5, Nat.lt_of_le_of_lt (Nat.le_add_left _ _) h3, Nat.lt_of_le_of_lt (Nat.le_add_left _ _) h, Nat.lt_of_le_of_lt (Nat.le_add_left _ _) h2, Nat.lt_of_le_of_lt (Nat.le_add_left _ _) h5, Nat.lt_of_le_of_lt (Nat.le_add_left _ _) h1⟩
theorem gstep_tot {line : Int} {i : Nat} (g : GS) (r : RK) : (gstep line i g r).tot ≤ g.tot + 2 := by
  cases r with
  | leaf v l =>
    cases l with
    | data t => simp only [gstep, GS.tot, List.length_append]; exact Nat.le_refl _
    | whil => exact tot1 (show g.whiles.length + 1 + g.pairs.length ≤ _ by rw [Nat.add_right_comm]; exact Nat.le_succ _)
    | wend => exact tot1 (joinL_len i g.whiles g.pairs)
    | forr => exact tot3 (show g.fors.length + 1 + g.loops.length ≤ _ by rw [Nat.add_right_comm]; exact Nat.le_succ _)
    | next k => exact tot3 (Nat.le_trans (endL_len i (max 1 k) 0 g.fors g.loops) (Nat.le_add_right _ _))
    | deff n =>
      refine tot2 (show g.heads.length + 1 + g.pairs.length ≤ _ by rw [Nat.add_right_comm]; exact Nat.le_refl _) ?_
      show (if _ then _ else _ : List (Str × Nat)).length ≤ _
      split
      · exact Nat.le_succ _
      · exact putA_le g.fns n i
    | fnend => exact tot4 (joinL_len i g.heads g.pairs)
    | _ => exact Nat.le_add_right _ _
  | _ => exact Nat.le_add_right _ _
theorem GRep.sz {prog : Program} {w : World} {imm : Led} {g : GS} {vw vf vh dv : List Value} {oP oL oF : Obj} {i : Nat} (G : GRep prog w imm g vw vf vh dv oP oL oF) (hb : g.tot ≤ 2 * i) (hi : i < 1000) : vw.length < 90000 ∧ vf.length < 90000 ∧ vh.length < 90000 ∧ dv.length < 90000 ∧ g.pairs.length < 90000 ∧ g.loops.length < 90000 ∧ g.fns.length < 90000 := by
  rw [G.wh.length, G.fo.length, G.he.length, G.da.length]
  exact tot6 (Nat.lt_of_le_of_lt hb (Nat.lt_of_lt_of_le (Nat.mul_lt_mul_of_pos_left hi (by decide)) (by decide)))
theorem range_size {a b : Int} {n : Nat} (h : b = a + n) : Builtin.Range.rangeSize a b 1 = (n : Int) := by
  subst h
  unfold Builtin.Range.rangeSize
  simp only [show (1 : Int) > 0 from by decide, if_true, Int.ediv_one]
  split <;> omega
theorem range_small {a b : Int} {n : Nat} (h : b = a + n) (h0 : 0 ≤ a) (h1 : a < 1000000) (hn : n < 1000000) : Builtin.Range.small a b 1 = true := by
  unfold Builtin.Range.small
  rw [range_size h]
  unfold Builtin.Range.rangeFitsLong
  simp
  omega
section
variable {prog : Program} {w : World} {A : Around} {E : Value → Shared → Prop} {s : Shared} {h₀ h : Heap} {L D : Addr} {m : Str → Option Value} {pre post rest l imm imm1 keep : Led} {x : Addr × Obj} {vs : List Value} {n : Nat} {v : Value}
structure Sep (as : List Addr) (rest : Led) : Prop where
  nd : as.Nodup
  off : ∀ p ∈ rest, p.1 ∉ as
end
section
variable {prog : Program} {w : World} {A : Around} {E : Value → Shared → Prop} {s : Shared} {h₀ : Heap} {L l : Addr} {m : Str → Option Value} {news : Led} {items : List Value} {k : Nat}
theorem enum_new {Q : Value → Shared → Prop} (F : Fr h₀ L s.heap m) (N : News h₀ L s.heap news) (hm : (l, lstO items k) ∈ news)
    (h : ∀ e it io h', (io.cls = .type "list_iterator" ∧ io.data = .fields #[.ref l, .int 0 0]) → e ≠ it → Fr h₀ L h' m → News h₀ L h' ((e, enumO it 0 .none) :: (it, io) :: news) → AllLt e news → AllLt it news → Q (.ref e) { s with heap := h' }) :
    wpAny (model prog w) A (call (.type "enumerate") [.ref l]) Q E s := by
  have hl : s.heap.IsList l items.toArray := ⟨_, (N _ hm).1, rfl, k, rfl⟩
  have hs : ∀ p ∈ news, p.1 < s.heap.objs.size := fun p hp => Heap.lt_size (N p hp).1
  refine call_enumerate_list hl fun h' hE hI hsz hk => ?_
  obtain ⟨io, hio, hc, hd⟩ := hI
  refine h (s.heap.objs.size + 1) s.heap.objs.size io h' ⟨hc, hd⟩ (Nat.succ_ne_self _) (F.keeps hk) (fun p hp => ?_) (allLt_iff.mpr fun p hp => Nat.lt_succ_of_lt (hs p hp)) (allLt_iff.mpr hs)
  rcases List.mem_cons.mp hp with rfl | hp
  · exact ⟨hE, Nat.ne_of_gt (Nat.lt_succ_of_lt F.ns.lt), Heap.get?_none_of_le (Nat.le_trans F.above (Nat.le_of_lt (Nat.lt_succ_of_lt F.ns.lt)))⟩
  rcases List.mem_cons.mp hp with rfl | hp
  · exact ⟨hio, new_addr F⟩
  · exact ⟨hk _ _ (N p hp).1, (N p hp).2⟩
end
noncomputable def Lf.nx : Lf → Nat
  | .next k => k
  | _ => 0
section
variable {prog : Program} {w : World} {A : Around} {E : Value → Shared → Prop} {s : Shared} {Q : Value → Shared → Prop} {a b : Nat} {x y : Int} {t u : Tok}
theorem fd_nat (hx : x = (a : Int)) (hy : y = (b : Int)) (hb : 0 < b) (hs : b < 1000000) (h : ∀ k k', Q (.int ((a / b : Nat) : Int) k) { s with toks := k' }) : wpAny (model prog w) A (binaryOp .FloorDiv (.int x t) (.int y u)) Q E s := by
  subst hx hy
  refine floordiv_int (by omega) ?_ (Or.inl (PyProof.noPylong_small (by omega)))
  rw [Int.fdiv_eq_ediv_of_nonneg _ (by omega)]
  exact h _ _
theorem md_nat (hx : x = (a : Int)) (hy : y = (b : Int)) (hb : 0 < b) (h : ∀ k k', Q (.int ((a % b : Nat) : Int) k) { s with toks := k' }) : wpAny (model prog w) A (binaryOp .Mod (.int x t) (.int y u)) Q E s := by
  subst hx hy
  refine mod_int' (by omega) ?_
  rw [Int.fmod_eq_emod_of_nonneg _ (by omega)]
  exact h _ _
end
theorem two_get {α β : Type} {R : α → β → Prop} {as : List α} {bs : List β} (h : Two R as bs) : ∀ {i : Nat}, i < bs.length → ∃ a b, as[i]? = some a ∧ bs[i]? = some b ∧ R a b := by
  induction h with
  | nil => intro i h; exact absurd h (Nat.not_lt_zero _)
  | cons h _ ih =>
    intro i hi
    cases i with
    | zero => exact ⟨_, _, rfl, rfl, h⟩
    | succ i => exact ih (Nat.lt_of_succ_lt_succ hi)
noncomputable def T.app : T → T → T
  | .nil, u => u
  | .leaf v l r, u => .leaf v l (r.app u)
  | .ite v k a b r, u => .ite v k a b (r.app u)
theorem RepT.append {imm : Led} {vs vs' : List Value} {t u : T} (h : RepT imm vs t) (h' : RepT imm vs' u) : RepT imm (vs ++ vs') (t.app u) := by
  induction h with
  | nil => exact h'
  | leaf h _ ih => exact .leaf h ih
  | ite a b c d e f _ _ _ ih => exact .ite a b c d e f ih
theorem T.size_app : ∀ (t u : T), (t.app u).size = t.size + u.size
  | .nil, u => (Nat.zero_add _).symm
  | .leaf _ _ r, u => by simp only [T.app, T.size, r.size_app u]; omega
  | .ite _ _ a b r, u => by simp only [T.app, T.size, r.size_app u]; omega
theorem T.hgt_app : ∀ (t u : T), (t.app u).hgt = max t.hgt u.hgt
  | .nil, u => (Nat.zero_max _).symm
  | .leaf _ _ r, u => by simp only [T.app, T.hgt, r.hgt_app u]
  | .ite _ _ a b r, u => by simp only [T.app, T.hgt, r.hgt_app u]; exact (Nat.max_assoc _ _ _).symm
noncomputable def OkT (c : Nat) : T → Prop
  | .nil => True
  | .leaf _ l r => l.nx ≤ 2 ∧ OkT c r
  | .ite _ k a b r => k ≤ c ∧ OkT c a ∧ OkT c b ∧ OkT c r
theorem OkT.mono {c d : Nat} (hcd : c ≤ d) : ∀ {t : T}, OkT c t → OkT d t
  | .nil, _ => trivial
  | .leaf _ _ r, h => ⟨h.1, OkT.mono (t := r) hcd h.2⟩
  | .ite _ _ a b r, h => ⟨Nat.le_trans h.1 hcd, OkT.mono (t := a) hcd h.2.1, OkT.mono (t := b) hcd h.2.2.1, OkT.mono (t := r) hcd h.2.2.2⟩
theorem OkT.app {c : Nat} {u : T} (hu : OkT c u) : ∀ {t : T}, OkT c t → OkT c (t.app u)
  | .nil, _ => hu
  | .leaf _ _ r, h => ⟨h.1, OkT.app (t := r) hu h.2⟩
  | .ite _ _ a b r, h => ⟨h.1, h.2.1, h.2.2.1, OkT.app (t := r) hu h.2.2.2⟩
noncomputable def bnd : Nat → Nat
  | 0 => 3
  | d + 1 => 4 * bnd d + 5
noncomputable def per : Nat → Nat
  | 0 => 1
  | d + 1 => 2 * bnd d + 2
theorem per_bnd : ∀ d, 1 + 2 * per d = bnd d
  | 0 => rfl
  | d + 1 => by simp only [per, bnd]; omega
structure Wc (prog : Program) (w : World) where
  p : Program
  loose : List Str
  mean : ExcName → Option Value
  mg : Str → Option Value
  mb : Str → Option Value
  dp : Nat
  un : Nat
  gd : Option (List Code)
  cn : Str
  cs : Scope
  L : Addr
  a : Addr
  ccd : Value
  cl : List (Str × Addr)
  outer : List Env
  A₀ : Around
  base : Heap
  h₀ : Heap
  s : Shared
  ev : Env
section
variable {prog : Program} {w : World}
noncomputable abbrev Wc.env (c : Wc prog w) : Env := c.ev
noncomputable abbrev Wc.A (c : Wc prog w) : Around := ktrTop c.dp c.un c.gd c.cn c.cs c.L c.a c.ccd c.cl c.outer
noncomputable abbrev Wc.st (c : Wc prog w) (h : Heap) (tk : Tok) : Shared := { c.s with heap := h, toks := tk }
structure Wc.Ok (c : Wc prog w) (sc : Scope) : Prop where
  B : Below c.A₀ c.base c.outer c.h₀
  X : (Mine.K w.params).In c.h₀
  T : Top c.p c.loose c.mean c.mg c.mb c.h₀
  hs : c.cs = sc
  hk : sc.kind = .function
structure Wc.Okf (c : Wc prog w) (sc : Scope) : Prop extends Wc.Ok c sc where
  he : c.ev = envX c.cn c.cs c.L c.a c.ccd c.cl
noncomputable abbrev Nm := Str → Option Value
structure At (c : Wc prog w) (m : Nm) (l : Led) (h : Heap) : Prop where
  F : Fr c.h₀ c.L h m
  N : News c.h₀ c.L h l
structure Tr {α : Type} (c : Wc prog w) (m : Nm) (l : Led) (t : Sem α) (P : α → Led → Prop) : Prop where
  run : ∀ h tk (Q : α → Shared → Prop) (E : Value → Shared → Prop), At c m l h → (∀ v l' h' tk', P v l' → At c m l' h' → Q v (c.st h' tk')) → wpAny (model prog w) c.A t Q E (c.st h tk)
noncomputable abbrev Ev (c : Wc prog w) (m : Nm) (l : Led) (e : Expr) (P : Value → Led → Prop) : Prop := Tr c m l (eval e c.env) P
noncomputable abbrev Is (R : Value → Prop) (l : Led) : Value → Led → Prop := fun v l' => R v ∧ l' = l
noncomputable abbrev Pu (c : Wc prog w) (m : Nm) (l : Led) (e : Expr) (R : Value → Prop) : Prop := Ev c m l e (Is R l)
noncomputable abbrev IntV (n : Int) : Value → Prop := fun v => ∃ t, v = .int n t
noncomputable abbrev StV (x : Str) : Value → Prop := fun v => ∃ t, v = .str x t
noncomputable abbrev Eqv (v : Value) : Value → Prop := fun x => x = v
noncomputable def upd (m : Nm) (x : Str) (v : Value) : Nm := fun y => if y = x then some v else m y
noncomputable abbrev Ts (c : Wc prog w) (m : Nm) (l : Led) (e : Expr) (b : Bool) : Prop := Tr c m l (isTrue e c.env (eval e c.env)) (fun b' l' => b' = b ∧ l' = l)
noncomputable abbrev Ar (c : Wc prog w) (m : Nm) (l : Led) (es : List Expr) (pos : Pos) (P : List Value → Led → Prop) : Prop := Tr c m l (spliced (backTo pos (starEach es c.env))) P
structure End (c : Wc prog w) (Q : Flow → Shared → Prop) (m : Nm) (l : Led) (f : Flow) : Prop where
  run : ∀ h tk, At c m l h → Q f (c.st h tk)
structure Go (c : Wc prog w) (Q : Flow → Shared → Prop) (m : Nm) (l : Led) (b : List Stmt) : Prop where
  run : ∀ h tk (E : Value → Shared → Prop), At c m l h → wpAny (model prog w) c.A (execs b c.env) Q E (c.st h tk)
end
theorem fact_len : bootBuiltins (Str.ofString "len") = some (.builtin "len") := by boot_fast
theorem fact_len0 : ∀ P, nsIn (Mine.K P) mainGlobals (Str.ofString "len") = some none := fun P => by k_is
theorem fact_get : ∀ P, plainGet (Mine.K P) 54 (Str.ofString "x") = true := fun P => by k_is
theorem fact_dict : ∀ P, hasDictIn (Mine.K P) 54 = true := fun P => by k_is
theorem fact_rows : ∀ P, findIn (Mine.K P) (.ref 54) (Str.ofString "rows") = some none := fun P => by k_is
theorem fact_places : ∀ P, findIn (Mine.K P) (.ref 54) (Str.ofString "places") = some none := fun P => by k_is
theorem fact_data : ∀ P, findIn (Mine.K P) (.ref 54) (Str.ofString "data") = some none := fun P => by k_is
theorem fact_pairs : ∀ P, findIn (Mine.K P) (.ref 54) (Str.ofString "pairs") = some none := fun P => by k_is
theorem fact_loops : ∀ P, findIn (Mine.K P) (.ref 54) (Str.ofString "loops") = some none := fun P => by k_is
theorem fact_fns : ∀ P, findIn (Mine.K P) (.ref 54) (Str.ofString "fns") = some none := fun P => by k_is
theorem at_sub {prog : Program} {w : World} {c : Wc prog w} {m : Nm} {l l' : Led} {h : Heap} (H : At c m l h) (hs : ∀ p ∈ l', p ∈ l) : At c m l' h := ⟨H.F, newsSub H.N hs⟩
section
variable {prog : Program} {w : World} {c : Wc prog w} {sc : Scope} {m : Nm} {l l' : Led} {e e1 e2 : Expr} {R R1 R2 : Value → Prop} {pos pos' : Pos} {x : Str} {v : Value} {D : Addr} {k j : Nat} {a b : Int} {vs : List Value} {n : Nat}
theorem Tr.mono {α : Type} {t : Sem α} {P P' : α → Led → Prop} (h : Tr c m l t P) (hs : ∀ v l', P v l' → P' v l') : Tr c m l t P' := .mk fun h0 tk Q E H k => h.run h0 tk Q E H fun v l' h' tk' p => k v l' h' tk' (hs v l' p)
theorem Tr.sub {α : Type} {t : Sem α} {P : α → Led → Prop} (h : Tr c m l' t P) (hs : ∀ p ∈ l', p ∈ l) : Tr c m l t P := .mk fun h0 tk Q E H k => h.run h0 tk Q E (at_sub H hs) k
theorem kind_sc (W : c.Okf sc) {k9 : NameKind} (hl : sc.names.lookup x = some k9) : Env.kindOf (envX c.cn c.cs c.L c.a c.ccd c.cl) x = some k9 := by
  show c.cs.names.lookup x = _
  rw [W.hs]; exact hl
theorem kind_fn (W : c.Okf sc) : c.cs.kind = .function := by rw [W.hs]; exact W.hk
theorem pu_name (W : c.Okf sc) (hm : m x = some v) (hl : sc.names.lookup x = some .local := by rfl) (hx : (x == ("__debug__" : Str)) = false := by decide) : Pu c m l (.Name x pos) (Eqv v) := .mk fun h tk Q E H k => by
  show wpAny _ _ (eval (.Name x pos) c.ev) _ _ _
  rw [W.he]
  exact nameX_L H.F hm (k _ _ _ _ ⟨rfl, rfl⟩ H) (kind_fn W) (kind_sc W hl) hx
theorem pu_gname {a9 : Value} (W : c.Okf sc) (hf : ∀ P, nsIn (Mine.K P) mainGlobals x = some (some a9)) (hl : sc.names.lookup x = some .globalImplicit := by rfl) (hx : (x == ("__debug__" : Str)) = false := by decide) : Pu c m l (.Name x pos) (Eqv a9) := .mk fun h tk Q E H k => by
  show wpAny _ _ (eval (.Name x pos) c.ev) _ _ _
  rw [W.he]
  exact nameX_K H.F W.X (topRead_of W.T) (hf _) (k _ _ _ _ ⟨rfl, rfl⟩ H) (kind_fn W) (kind_sc W hl) hx
theorem pu_bname {a9 : Value} (W : c.Okf sc) (hf : ∀ P, nsIn (Mine.K P) mainGlobals x = some none) (hb : bootBuiltins x = some a9) (hl : sc.names.lookup x = some .globalImplicit := by rfl) (hx : (x == ("__debug__" : Str)) = false := by decide) (hn : x ≠ ("__name__" : Str) := by decide) : Pu c m l (.Name x pos) (Eqv a9) := .mk fun h tk Q E H k => by
  show wpAny _ _ (eval (.Name x pos) c.ev) _ _ _
  rw [W.he]
  exact nameX_B H.F W.X (topRead_of W.T) (hf _) hb hn (k _ _ _ _ ⟨rfl, rfl⟩ H) (kind_fn W) (kind_sc W hl) hx
theorem pu_int : Pu c m l (.Constant (.int a) k pos) (IntV a) := .mk fun h tk Q E H kk => wpAny_Constant_int (kk _ _ _ _ ⟨⟨_, rfl⟩, rfl⟩ H)
theorem pu_str : Pu c m l (.Constant (.str x) k pos) (StV x) := .mk fun h tk Q E H kk => PySem.Calls.Constant_str (kk _ _ _ _ ⟨⟨_, rfl⟩, rfl⟩ H)
theorem ev_attr {f : FA} {attr : Str} {xp : Pos} {r : Option Value} (W : c.Ok sc) (ho : Pu c m l (.Name x xp) (Eqv (.ref f.o))) (hf : FlatIn w.params f l) (hr : ∀ P, findIn (Mine.K P) (.ref 54) attr = some r) (hg : noGet (Mine.K w.params) r = true)
    (hv : getL attr (f.es w.params) = some (some v)) (hh : handedIn v = true) : Pu c m l (.Attribute (.Name x xp) attr pos) (Eqv v) := .mk fun h tk Q E H k => by
  refine PyProof.Rows.Attribute_Name_ (ho.run h tk _ E H ?_)
  rintro _ _ h' tk' ⟨rfl, rfl⟩ H'
  exact get_own H'.F W.X (InstAt.of_news H'.N hf.o hf.d) (fact_get _) (fact_dict _) (hr _) hg hv hh (k _ _ _ _ ⟨rfl, rfl⟩ H')
theorem pu_rows {f : FA} {xp : Pos} (W : c.Ok sc) (hf : FlatIn w.params f l) (ho : Pu c m l (.Name x xp) (Eqv (.ref f.o))) : Pu c m l (.Attribute (.Name x xp) (Str.ofString "rows") pos) (Eqv (.ref f.rows)) := ev_attr W ho hf fact_rows rfl rfl rfl
theorem pu_places {f : FA} {xp : Pos} (W : c.Ok sc) (hf : FlatIn w.params f l) (ho : Pu c m l (.Name x xp) (Eqv (.ref f.o))) : Pu c m l (.Attribute (.Name x xp) (Str.ofString "places") pos) (Eqv (.ref f.places)) := ev_attr W ho hf fact_places rfl rfl rfl
theorem pu_data {f : FA} {xp : Pos} (W : c.Ok sc) (hf : FlatIn w.params f l) (ho : Pu c m l (.Name x xp) (Eqv (.ref f.o))) : Pu c m l (.Attribute (.Name x xp) (Str.ofString "data") pos) (Eqv (.ref f.data)) := ev_attr W ho hf fact_data rfl rfl rfl
theorem pu_pairs {f : FA} {xp : Pos} (W : c.Ok sc) (hf : FlatIn w.params f l) (ho : Pu c m l (.Name x xp) (Eqv (.ref f.o))) : Pu c m l (.Attribute (.Name x xp) (Str.ofString "pairs") pos) (Eqv (.ref f.pairs)) := ev_attr W ho hf fact_pairs rfl rfl rfl
theorem pu_loops {f : FA} {xp : Pos} (W : c.Ok sc) (hf : FlatIn w.params f l) (ho : Pu c m l (.Name x xp) (Eqv (.ref f.o))) : Pu c m l (.Attribute (.Name x xp) (Str.ofString "loops") pos) (Eqv (.ref f.loops)) := ev_attr W ho hf fact_loops rfl rfl rfl
theorem pu_fns {f : FA} {xp : Pos} (W : c.Ok sc) (hf : FlatIn w.params f l) (ho : Pu c m l (.Name x xp) (Eqv (.ref f.o))) : Pu c m l (.Attribute (.Name x xp) (Str.ofString "fns") pos) (Eqv (.ref f.fns)) := ev_attr W ho hf fact_fns rfl rfl rfl
theorem pu_sub {tail : ∀ {h tk t} {Q : Value → Shared → Prop} {E}, At c m l h → Q v (c.st h tk) → wpAny (model prog w) c.A (subscriptTail (.Name x pos) e2 (.ref D) (.int a t)) Q E (c.st h tk)} (ho : Pu c m l e1 (Eqv (.ref D))) (hi : Pu c m l e2 (IntV a)) : Pu c m l (.Subscript e1 e2 pos') (Eqv v) := .mk fun h tk Q E H k => by
  refine Subscript_ (ho.run h tk _ E H ?_)
  rintro _ _ h' tk' ⟨rfl, rfl⟩ H'
  refine hi.run h' tk' _ E H' ?_
  rintro _ _ h2 tk2 ⟨⟨t, rfl⟩, rfl⟩ H2
  refine kba_turn (value' := .Name x pos) (fun _ => rfl) (tail H2 (k _ _ _ _ ⟨rfl, rfl⟩ H2))
theorem pu_tup (hm : (D, tupO vs) ∈ l) (hx : vs[k]? = some v) (hk : k < 1000) (ho : Pu c m l e1 (Eqv (.ref D))) (hi : Pu c m l e2 (IntV (k : Int))) (hs : ∀ t, subscripted e2 false (.ref D) (.int (k : Int) t) = operate [.ref D, .int (k : Int) t] (getItem (.ref D) (.int (k : Int) t)) := by intro _; with_unfolding_all rfl) :
    Pu c m l (.Subscript e1 e2 pos') (Eqv v) :=
  pu_sub (x := Str.ofString "x") (pos := pos') (tail := fun H q => item_tupleL (j := k) ⟨_, (H.N _ hm).1, rfl, 0, rfl⟩ (by omega) (by omega) (seqIndex_lt (List.getElem?_eq_some_iff.mp hx).1) hx q (hs _)) ho hi
theorem pu_item (hm : (D, lstO vs n) ∈ l) (h0 : 0 ≤ a) (hx : vs[a.toNat]? = some v) (hk : a < 1000000) (ho : Pu c m l e1 (Eqv (.ref D))) (hi : Pu c m l e2 (IntV a)) (hs : ∀ t, subscripted e2 false (.ref D) (.int a t) = operate [.ref D, .int a t] (getItem (.ref D) (.int a t)) := by intro _; with_unfolding_all rfl) :
    Pu c m l (.Subscript e1 e2 pos') (Eqv v) :=
  pu_sub (x := Str.ofString "x") (pos := pos') (tail := fun H q => item_listL ⟨_, (H.N _ hm).1, rfl, n, rfl⟩ h0 (by omega) hx q (hs _)) ho hi
theorem pu_bin {op : Operator} {p : Pos} {r : Int} (h1 : Pu c m l e1 (IntV a)) (h2 : Pu c m l e2 (IntV b)) (hop : ∀ {t u} {Q : Value → Shared → Prop} {E} {s : Shared}, (∀ k k', Q (.int r k) { s with toks := k' }) → wpAny (model prog w) c.A (binaryOp op (.int a t) (.int b u)) Q E s) : Pu c m l (.BinOp e1 op e2 p) (IntV r) := .mk fun h tk Q E H k => by
  refine wpAny_BinOp (h1.run h tk _ E H ?_)
  rintro _ _ h' tk' ⟨⟨t, rfl⟩, rfl⟩ H'
  refine h2.run h' tk' _ E H' ?_
  rintro _ _ h2 tk2 ⟨⟨t, rfl⟩, rfl⟩ H2
  exact hop fun k1 k2 => k _ _ _ _ ⟨⟨_, rfl⟩, rfl⟩ H2
theorem pu_add (h1 : Pu c m l e1 (IntV a)) (h2 : Pu c m l e2 (IntV b)) : Pu c m l (.BinOp e1 .Add e2 pos) (IntV (a + b)) := pu_bin h1 h2 fun q => wpAny_add_int (q _ _)
theorem pu_subt (h1 : Pu c m l e1 (IntV a)) (h2 : Pu c m l e2 (IntV b)) : Pu c m l (.BinOp e1 .Sub e2 pos) (IntV (a - b)) := pu_bin h1 h2 fun q => sub_int (q _ _)
theorem pu_fd {i j : Nat} (hj : 0 < j) (hj2 : j < 1000000) (h1 : Pu c m l e1 (IntV (i : Int))) (h2 : Pu c m l e2 (IntV (j : Int))) : Pu c m l (.BinOp e1 .FloorDiv e2 pos) (IntV ((i / j : Nat) : Int)) := pu_bin h1 h2 fun q => fd_nat rfl rfl hj hj2 q
theorem pu_md {i j : Nat} (hj : 0 < j) (h1 : Pu c m l e1 (IntV (i : Int))) (h2 : Pu c m l e2 (IntV (j : Int))) : Pu c m l (.BinOp e1 .Mod e2 pos) (IntV ((i % j : Nat) : Int)) := pu_bin h1 h2 fun q => md_nat rfl rfl hj q
theorem Pu.int (h : Pu c m l e (Eqv (.int a k))) : Pu c m l e (IntV a) := h.mono fun _ _ q => ⟨⟨k, q.1⟩, q.2⟩
theorem Pu.as (h : Pu c m l e (IntV a)) (hab : a = b) : Pu c m l e (IntV b) := hab ▸ h
theorem pi_name (W : c.Okf sc) (hm : m x = some (.int a k)) (hl : sc.names.lookup x = some .local := by rfl) (hx : (x == ("__debug__" : Str)) = false := by decide) : Pu c m l (.Name x pos) (IntV a) := (pu_name W hm hl hx).int
theorem pi_item {t9 : Tok} (hm : (D, lstO vs n) ∈ l) (h0 : 0 ≤ a) (hx : vs[a.toNat]? = some (.int b t9)) (hk : a < 1000000) (ho : Pu c m l e1 (Eqv (.ref D))) (hi : Pu c m l e2 (IntV a)) (hs : ∀ t, subscripted e2 false (.ref D) (.int a t) = operate [.ref D, .int a t] (getItem (.ref D) (.int a t)) := by intro _; with_unfolding_all rfl) :
    Pu c m l (.Subscript e1 e2 pos') (IntV b) := (pu_item hm h0 hx hk ho hi hs).int
theorem pi_tup {t9 : Tok} (hm : (D, tupO vs) ∈ l) (hx : vs[k]? = some (.int b t9)) (hk : k < 1000) (ho : Pu c m l e1 (Eqv (.ref D))) (hi : Pu c m l e2 (IntV (k : Int))) (hs : ∀ t, subscripted e2 false (.ref D) (.int (k : Int) t) = operate [.ref D, .int (k : Int) t] (getItem (.ref D) (.int (k : Int) t)) := by intro _; with_unfolding_all rfl) :
    Pu c m l (.Subscript e1 e2 pos') (IntV b) := (pu_tup hm hx hk ho hi hs).int
theorem ps_tup {t9 : Tok} (hm : (D, tupO vs) ∈ l) (hx : vs[k]? = some (.str x t9)) (hk : k < 1000) (ho : Pu c m l e1 (Eqv (.ref D))) (hi : Pu c m l e2 (IntV (k : Int))) (hs : ∀ t, subscripted e2 false (.ref D) (.int (k : Int) t) = operate [.ref D, .int (k : Int) t] (getItem (.ref D) (.int (k : Int) t)) := by intro _; with_unfolding_all rfl) :
    Pu c m l (.Subscript e1 e2 pos') (StV x) := (pu_tup hm hx hk ho hi hs).mono fun _ _ q => ⟨⟨_, q.1⟩, q.2⟩
theorem pu_len' {np : Pos} (hn : Pu c m l (.Name (Str.ofString "len") np) (Eqv (.builtin "len"))) (hm : (D, lstO vs n) ∈ l) (hz : vs.length < 1000000) (h : Pu c m l e (Eqv (.ref D))) (hs : starEach [e] c.env = [(false, eval e c.env)] := by rfl) :
    Pu c m l (.Call (.Name (Str.ofString "len") np) [e] [] pos) (IntV (vs.length : Int)) := .mk fun h0 tk Q E H k => by
  refine PyProof.Rows.Call_ (hn.run h0 tk _ E H ?_)
  rintro _ _ h1 tk1 ⟨rfl, rfl⟩ H1
  refine PyProof.Rows.callWith_builtin1 (PyProof.Rows.args_cons (h.run h1 tk1 _ E H1 ?_) hs) hs rfl
  rintro _ _ h' tk' ⟨rfl, rfl⟩ H'
  refine PyProof.Rows.args_nil (len_list ⟨_, (H'.N _ hm).1, rfl, n, rfl⟩ (by simp only [List.size_toArray]; omega) ?_)
  rw [List.size_toArray]
  exact k _ _ _ _ ⟨⟨_, rfl⟩, rfl⟩ H'
theorem pu_len (W : c.Okf sc) {np : Pos} (hm : (D, lstO vs n) ∈ l) (hz : vs.length < 1000000) (h : Pu c m l e (Eqv (.ref D))) (hl : sc.names.lookup (Str.ofString "len") = some .globalImplicit := by rfl) (hs : starEach [e] c.env = [(false, eval e c.env)] := by rfl) :
    Pu c m l (.Call (.Name (Str.ofString "len") np) [e] [] pos) (IntV (vs.length : Int)) := pu_len' (pu_bname W fact_len0 fact_len hl) hm hz h hs
end
structure Cont {prog : Program} {w : World} (c : Wc prog w) (Q Q' : Flow → Shared → Prop) (rest : List Stmt) : Prop where
  nx : ∀ m l, Go c Q m l rest → End c Q' m l .next
  rt : ∀ v m l, End c Q m l (.ret v) → End c Q' m l (.ret v)
theorem fact_range : bootBuiltins (Str.ofString "range") = some (.type "range") := by boot_fast
theorem fact_range0 : ∀ P, nsIn (Mine.K P) mainGlobals (Str.ofString "range") = some none := fun P => by k_is
theorem fact_enum : bootBuiltins (Str.ofString "enumerate") = some (.type "enumerate") := by boot_fast
theorem fact_enum0 : ∀ P, nsIn (Mine.K P) mainGlobals (Str.ofString "enumerate") = some none := fun P => by k_is
section
variable {prog : Program} {w : World} {c : Wc prog w} {sc : Scope} {m : Nm} {l l' : Led} {e e1 e2 : Expr} {R R1 R2 : Value → Prop} {pos pos' np : Pos} {x : Str} {v : Value} {D : Addr} {k j : Nat} {a b : Int} {vs : List Value} {n : Nat} {P : Value → Led → Prop} {rest body orelse : List Stmt} {Q : Flow → Shared → Prop}
theorem ts_cmp {op : CmpOp} {bb : Bool} (h1 : Pu c m l e1 R1) (h2 : Pu c m l e2 R2) (hop : ∀ {v1 v2} {Q : Value → Shared → Prop} {E} {h tk}, R1 v1 → R2 v2 → At c m l h → (∀ tk', Q (.bool bb) (c.st h tk')) → wpAny (model prog w) c.A (compareOp op v1 v2) Q E (c.st h tk)) (hb : behindInMarks op e2 = false := by rfl) :
    Ts c m l (.Compare e1 [op] [e2] pos) bb := .mk fun h tk Q E H kk => by
  refine wpAny_isTrue_Compare1 (h1.run h tk _ E H ?_) hb
  rintro v1 _ h' tk' ⟨r1, rfl⟩ H'
  refine h2.run h' tk' _ E H' ?_
  rintro v2 _ h2 tk2 ⟨r2, rfl⟩ H2
  exact hop r1 r2 H2 fun tk3 => wpAny_truthy_bool (kk _ _ _ _ ⟨rfl, rfl⟩ H2)
theorem pu_cmp {op : CmpOp} {bb : Bool} (h1 : Pu c m l e1 R1) (h2 : Pu c m l e2 R2) (hop : ∀ {v1 v2} {Q : Value → Shared → Prop} {E} {h tk}, R1 v1 → R2 v2 → At c m l h → (∀ tk', Q (.bool bb) (c.st h tk')) → wpAny (model prog w) c.A (compareOp op v1 v2) Q E (c.st h tk)) (hb : behindInMarks op e2 = false := by rfl) :
    Pu c m l (.Compare e1 [op] [e2] pos) (Eqv (.bool bb)) := .mk fun h tk Q E H kk => by
  refine wpAny_Compare1 (h1.run h tk _ E H ?_) hb
  rintro v1 _ h' tk' ⟨r1, rfl⟩ H'
  refine h2.run h' tk' _ E H' ?_
  rintro v2 _ h2 tk2 ⟨r2, rfl⟩ H2
  exact hop r1 r2 H2 fun tk3 => kk _ _ _ _ ⟨rfl, rfl⟩ H2
noncomputable def cmpI (op : CmpOp) (a b : Int) : Option Bool := match op with
  | .Eq => some (a == b)
  | .NotEq => some (a != b)
  | .Lt => some (decide (a < b))
  | .LtE => some (decide (a ≤ b))
  | .Gt => some (decide (b < a))
  | .GtE => some (decide (b ≤ a))
  | _ => none
theorem cmpI_wp {op : CmpOp} {bb : Bool} (hc : cmpI op a b = some bb) {v1 v2 : Value} {Q : Value → Shared → Prop} {E : Value → Shared → Prop} {h : Heap} {tk : Tok} (h1 : IntV a v1) (h2 : IntV b v2) (_ : At c m l h) (q : ∀ tk', Q (.bool bb) (c.st h tk')) : wpAny (model prog w) c.A (compareOp op v1 v2) Q E (c.st h tk) := by
  obtain ⟨t1, rfl⟩ := h1
  obtain ⟨t2, rfl⟩ := h2
  cases op <;> first | (cases hc; done) | skip
  all_goals injection hc with hc
  all_goals subst hc
  · exact PyProof.Rows.eq_int (q _)
  · exact PyProof.Rows.ne_int (q _)
  · exact PyProof.Rows.lt_int (q _)
  · exact PyProof.Rows.le_int (q _)
  · exact PyProof.Rows.gt_int (q _)
  · exact PyProof.Rows.ge_int (q _)
theorem ts_int {op : CmpOp} {bb : Bool} (hc : cmpI op a b = some bb) (h1 : Pu c m l e1 (IntV a)) (h2 : Pu c m l e2 (IntV b)) (hb : behindInMarks op e2 = false := by rfl) : Ts c m l (.Compare e1 [op] [e2] pos) bb := ts_cmp h1 h2 (fun r1 r2 H q => cmpI_wp hc r1 r2 H q) hb
theorem ts_eqs {y : Str} (h1 : Pu c m l e1 (StV x)) (h2 : Pu c m l e2 (StV y)) (hb : behindInMarks .Eq e2 = false := by rfl) : Ts c m l (.Compare e1 [.Eq] [e2] pos) (x == y) := ts_cmp h1 h2 (fun r1 r2 _ q => by obtain ⟨_, rfl⟩ := r1; obtain ⟨_, rfl⟩ := r2; exact PyProof.Rows.eq_str (q _)) hb
theorem pu_eqs {y : Str} (h1 : Pu c m l e1 (StV x)) (h2 : Pu c m l e2 (StV y)) (hb : behindInMarks .Eq e2 = false := by rfl) : Pu c m l (.Compare e1 [.Eq] [e2] pos) (Eqv (.bool (x == y))) := pu_cmp h1 h2 (fun r1 r2 _ q => by obtain ⟨_, rfl⟩ := r1; obtain ⟨_, rfl⟩ := r2; exact PyProof.Rows.eq_str (q _)) hb
theorem Ts.as {b b' : Bool} (h : Ts c m l e b) (hb : b = b') : Ts c m l e b' := hb ▸ h
theorem ts_and_nil : Ts c m l (.BoolOp .And [] pos) true := .mk fun h tk Q E H kk => isTrue_and_nil (kk _ _ _ _ ⟨rfl, rfl⟩ H)
theorem ts_or_nil : Ts c m l (.BoolOp .Or [] pos) false := .mk fun h tk Q E H kk => isTrue_or_nil (kk _ _ _ _ ⟨rfl, rfl⟩ H)
theorem ts_and_t {es : List Expr} {bb : Bool} (h1 : Ts c m l e true) (h2 : Ts c m l (.BoolOp .And es pos) bb) : Ts c m l (.BoolOp .And (e :: es) pos) bb := .mk fun h tk Q E H kk => by
  refine isTrue_and (h1.run h tk _ E H ?_)
  rintro _ _ h' tk' ⟨rfl, rfl⟩ H'
  rw [if_pos rfl]
  exact h2.run h' tk' Q E H' kk
theorem ts_and_f {es : List Expr} (h1 : Ts c m l e false) : Ts c m l (.BoolOp .And (e :: es) pos) false := .mk fun h tk Q E H kk => by
  refine isTrue_and (h1.run h tk _ E H ?_)
  rintro _ _ h' tk' ⟨rfl, rfl⟩ H'
  exact kk _ _ _ _ ⟨rfl, rfl⟩ H'
theorem ts_or_f {es : List Expr} {bb : Bool} (h1 : Ts c m l e false) (h2 : Ts c m l (.BoolOp .Or es pos) bb) : Ts c m l (.BoolOp .Or (e :: es) pos) bb := .mk fun h tk Q E H kk => by
  refine isTrue_or (h1.run h tk _ E H ?_)
  rintro _ _ h' tk' ⟨rfl, rfl⟩ H'
  exact h2.run h' tk' Q E H' kk
theorem ts_or_t {es : List Expr} (h1 : Ts c m l e true) : Ts c m l (.BoolOp .Or (e :: es) pos) true := .mk fun h tk Q E H kk => by
  refine isTrue_or (h1.run h tk _ E H ?_)
  rintro _ _ h' tk' ⟨rfl, rfl⟩ H'
  exact kk _ _ _ _ ⟨rfl, rfl⟩ H'
theorem ts_val {bb : Bool} (h : Pu c m l e (Eqv (.bool bb))) (hs : ∀ whole, isTrue e c.env whole = (do let v ← whole; standAt e.pos; holding [v] (truthy v)) := by intro _; rfl) : Ts c m l e bb := .mk fun h0 tk Q E H kk => by
  refine isTrue_plain (h.run h0 tk _ E H ?_) (hs _)
  rintro _ _ h' tk' ⟨rfl, rfl⟩ H'
  exact wpAny_truthy_bool (kk _ _ _ _ ⟨rfl, rfl⟩ H')
theorem ev_if_t {test : Expr} (ht : Ts c m l test true) (h : Ev c m l e1 P) : Ev c m l (.IfExp test e1 e2 pos) P := .mk fun h0 tk Q E H kk => by
  refine IfExp_ (ht.run h0 tk _ E H ?_)
  rintro _ _ h' tk' ⟨rfl, rfl⟩ H'
  rw [if_pos rfl]
  exact h.run h' tk' Q E H' kk
theorem ev_if_f {test : Expr} (ht : Ts c m l test false) (h : Ev c m l e2 P) : Ev c m l (.IfExp test e1 e2 pos) P := .mk fun h0 tk Q E H kk => by
  refine IfExp_ (ht.run h0 tk _ E H ?_)
  rintro _ _ h' tk' ⟨rfl, rfl⟩ H'
  exact h.run h' tk' Q E H' kk
theorem ar_nil {P : List Value → Led → Prop} (h : P [] l) : Ar c m l [] pos P := .mk fun h0 tk Q E H kk => PyProof.Rows.args_nil (kk _ _ _ _ h H)
theorem ar_cons {es : List Expr} {P : List Value → Led → Prop} {P1 : Value → Led → Prop} (h1 : Ev c m l e P1) (h2 : ∀ v l', P1 v l' → Ar c m l' es pos (fun vs l'' => P (v :: vs) l'')) (hs : starEach (e :: es) c.env = (false, eval e c.env) :: starEach es c.env := by rfl) : Ar c m l (e :: es) pos P := .mk fun h0 tk Q E H kk => by
  refine PyProof.Rows.args_cons (h1.run h0 tk _ E H ?_) hs
  intro v l' h' tk' p H'
  exact (h2 v l' p).run h' tk' _ E H' fun vs l'' h'' tk'' p'' H'' => kk _ _ _ _ p'' H''
theorem ev_list {es : List Expr} {P1 : List Value → Led → Prop} (h : Ar c m l es pos P1) (k : ∀ vs l', P1 vs l' → vs.length ≤ sizeLine ∧ ∀ D, AllLt D l' → P (.ref D) ((D, lstO vs 0) :: l')) : Ev c m l (.List es pos) P := .mk fun h0 tk Q E H kk => by
  refine List_ (h.run h0 tk _ E H ?_)
  intro vs l' h' tk' p H'
  exact newList_K H'.F H'.N (fun D h'' F'' N'' hD => kk _ _ _ _ ((k vs l' p).2 D (allLt_iff.mpr hD)) ⟨F'', N''⟩) (k vs l' p).1
theorem ev_tup {es : List Expr} {kk9 : Nat} {P1 : List Value → Led → Prop} (h : Ar c m l es pos P1) (k : ∀ vs l', P1 vs l' → vs.length ≤ sizeLine ∧ ∀ D, AllLt D l' → P (.ref D) ((D, tupO vs) :: l')) : Ev c m l (.Tuple es kk9 pos) P := .mk fun h0 tk Q E H kk => by
  refine Tuple_ (h.run h0 tk _ E H ?_)
  intro vs l' h' tk' p H'
  exact kup_newTuple H'.F H'.N (fun D h'' F'' N'' hD => kk _ _ _ _ ((k vs l' p).2 D (allLt_iff.mpr hD)) ⟨F'', N''⟩) (k vs l' p).1
theorem ev_call' {es : List Expr} {f : Addr} {C : List Value → Led → Prop} (W : c.Ok sc) (hn : Pu c m l (.Name x np) (Eqv (.ref f))) (hk : ∀ P, keepIn (Mine.K P) (.ref f) = true) (ha : Ar c m l (e :: es) pos C) (hc : ∀ vs l', C vs l' → Tr c m l' (call (.ref f) vs) P)
    (hs : starEach (e :: es) c.env = (false, eval e c.env) :: starEach es c.env := by rfl) (hs2 : ((backTo pos (starEach es c.env)).any fun x => x.1) = false := by rfl) : Ev c m l (.Call (.Name x np) (e :: es) [] pos) P := .mk fun h0 tk Q E H kk => by
  refine PyProof.Rows.Call_ (hn.run h0 tk _ E H ?_)
  rintro _ _ h1 tk1 ⟨rfl, rfl⟩ H1
  refine callWith_K W.X (hk _) (ha.run h1 tk1 _ E H1 ?_) hs hs2
  intro vs l' h' tk' p H'
  exact ⟨W.X.keeps H'.F.keep, (hc vs l' p).run h' tk' Q E H' kk⟩
theorem ev_call {es : List Expr} {f : Addr} {C : List Value → Led → Prop} (W : c.Okf sc) (hf : ∀ P, nsIn (Mine.K P) mainGlobals x = some (some (.ref f))) (hk : ∀ P, keepIn (Mine.K P) (.ref f) = true) (ha : Ar c m l (e :: es) pos C) (hc : ∀ vs l', C vs l' → Tr c m l' (call (.ref f) vs) P)
    (hl : sc.names.lookup x = some .globalImplicit := by rfl) (hx : (x == ("__debug__" : Str)) = false := by decide) (hs : starEach (e :: es) c.env = (false, eval e c.env) :: starEach es c.env := by rfl) (hs2 : ((backTo pos (starEach es c.env)).any fun x => x.1) = false := by rfl) : Ev c m l (.Call (.Name x np) (e :: es) [] pos) P :=
  ev_call' W.toOk (pu_gname W hf hl hx) hk ha hc hs hs2
theorem go_nil (h : End c Q m l .next) : Go c Q m l [] := .mk fun h0 tk E H => wpAny_execs_nil (h.run h0 tk H)
theorem go_ret (h : Ev c m l e P) (hr : ∀ v l', P v l' → End c Q m l' (.ret v)) : Go c Q m l (.Return (some e) pos :: rest) := .mk fun h0 tk E H =>
  wpAny_execs_cons (wpAny_Return_some (h.run h0 tk _ E H fun v l' h' tk' p H' => (hr v l' p).run h' tk' H'))
theorem go_store (W : c.Okf sc) (hl : sc.names.lookup x = some .local) (k : Go c Q (upd m x v) l rest) {h0 : Heap} {tk : Tok} {E : Value → Shared → Prop} (H : At c m l h0) : wpAny (model prog w) c.A (storeName c.env x v) (fun _ s => wpAny (model prog w) c.A (execs rest c.env) Q E s) E (c.st h0 tk) := by
  show wpAny _ _ (storeName c.ev x v) _ _ _
  rw [W.he]
  exact storeX_L H.F H.N (fun h' F' N' => k.run h' _ E ⟨F', N'⟩) (kind_fn W) (kind_sc W hl)
theorem go_assign (W : c.Okf sc) (h : Ev c m l e P) (k : ∀ v l', P v l' → Go c Q (upd m x v) l' rest) (hl : sc.names.lookup x = some .local := by rfl) (hs : swapsWith e (some (.Name x pos')) pos.line c.env = pure false := by rfl) : Go c Q m l (.Assign [.Name x pos'] e pos :: rest) := .mk fun h0 tk E H =>
  wpAny_execs_cons (wpAny_Assign_Name (h.run h0 tk _ E H fun v l' h' tk' p H' => go_store W hl (k v l' p) H') hs)
theorem go_expr (W : c.Okf sc) (h : Ev c m l e P) (k : ∀ v l', P v l' → Go c Q m l' rest) (hs : swapsWith e none pos.line c.env = pure false := by rfl) : Go c Q m l (.Expr e pos :: rest) := .mk fun h0 tk E H =>
  wpAny_execs_cons (wpAny_Expr_any (h.run h0 tk _ E H fun v l' h' tk' p H' => (k v l' p).run h' tk' E H') (by unfold interactive; rw [show c.env = _ from W.he]; show (c.cs.kind == _ && _) = false; rw [W.hs, W.hk]; rfl) hs)
theorem cont_of {h0 : Heap} {tk : Tok} {E : Value → Shared → Prop} (k : ∀ Q', Cont c Q Q' rest → Go c Q' m l body) (H : At c m l h0) :
    wpAny (model prog w) c.A (execs body c.env) (fun f s' => match f with | .next => wpAny (model prog w) c.A (execs rest c.env) Q E s' | f => Q f s') E (c.st h0 tk) :=
  (k (fun f s' => match f with | .next => wpAny (model prog w) c.A (execs rest c.env) Q E s' | f => Q f s') ⟨fun m l h => .mk fun h1 tk1 H1 => h.run h1 tk1 E H1, fun v m l h => .mk fun h1 tk1 H1 => h.run h1 tk1 H1⟩).run h0 tk E H
theorem go_if_t (ht : Ts c m l e true) (k : ∀ Q', Cont c Q Q' rest → Go c Q' m l body) : Go c Q m l (.If e body orelse pos :: rest) := .mk fun h0 tk E H => by
  refine wpAny_execs_cons (wpAny_If (ht.run h0 tk _ E H ?_))
  rintro _ _ h' tk' ⟨rfl, rfl⟩ H'
  rw [if_pos rfl]
  exact cont_of k H'
theorem go_if_f (ht : Ts c m l e false) (k : ∀ Q', Cont c Q Q' rest → Go c Q' m l orelse) : Go c Q m l (.If e body orelse pos :: rest) := .mk fun h0 tk E H => by
  refine wpAny_execs_cons (wpAny_If (ht.run h0 tk _ E H ?_))
  rintro _ _ h' tk' ⟨rfl, rfl⟩ H'
  exact cont_of k H'
theorem go_skip (ht : Ts c m l e false) (k : Go c Q m l rest) : Go c Q m l (.If e body [] pos :: rest) := go_if_f ht fun _ C => go_nil (C.nx _ _ k)
theorem go_append {vs0 : List Value} {n0 : Nat} {ap : Pos} {pl : Sem Bool} (W : c.Okf sc) (hm : (D, lstO vs0 n0) ∈ l) (hx : Pu c m l (.Name x np) (Eqv (.ref D))) (he : Ev c m l e P) (k : ∀ v l', P v l' → ∃ vs n l1 l'', (∀ p ∈ l1, p ∈ l') ∧ Upd D (lstO vs n) (lstO (vs ++ [v]) (n + 1)) l1 l'' ∧ vs.length < 1000000 ∧ Go c Q m l'' rest)
    (hs : starEach [e] c.env = [(false, eval e c.env)] := by rfl) (hq : eval (.Call (.Attribute (.Name x np) (Str.ofString "append") ap) [e] [] pos') c.env = (do let ov ← eval (.Name x np) c.env; standAt ap.atName; let (f, first) ← holding [ov] (getMethod ov (Str.ofString "append") pl); callWith pos' f first (backTo pos' (starEach [e] c.env)) []) := by rfl)
    (hq2 : swapsWith (.Call (.Attribute (.Name x np) (Str.ofString "append") ap) [e] [] pos') none pos.line c.env = pure false := by rfl) : Go c Q m l (.Expr (.Call (.Attribute (.Name x np) (Str.ofString "append") ap) [e] [] pos') pos :: rest) := by
  refine go_expr W (P := fun v l'' => v = .none ∧ Go c Q m l'' rest) ?_ (fun _ _ h => h.2) hq2
  refine .mk fun h0 tk Q' E H kk => ?_
  refine MethodCall_ (pl := pl) (hx.run h0 tk _ E H ?_) hq
  rintro _ _ h' tk' ⟨rfl, rfl⟩ H'
  refine listMethod_K H'.N hm slot_list_append rfl (callWith_method1 (PyProof.Rows.args_cons (he.run h' tk' _ E H' ?_) hs) hs rfl)
  intro v l' h2 tk2 p H2
  refine PyProof.Rows.args_nil ?_
  obtain ⟨vs, n, l1, l'', hs9, hU, hz, g⟩ := k v l' p
  have H2 := at_sub H2 hs9
  have e9 : lstO (vs ++ [v]) (n + 1) = PySem.W.listOf (vs.toArray.push v) (n + 1) := by simp [lstO, PySem.W.listOf]
  exact append_K (its := vs.toArray) H2.F H2.N (e9 ▸ hU) (fun h4 F4 N4 => kk _ _ _ _ ⟨rfl, g⟩ ⟨F4, N4⟩) (by rw [sizeLine_eq, List.size_toArray]; omega)
end
structure GoT {prog : Program} {w : World} (c : Wc prog w) (Q : Flow → Shared → Prop) (m : Nm) (l : Led) (target : Expr) (v : Value) (b : List Stmt) : Prop where
  run : ∀ h tk (E : Value → Shared → Prop), At c m l h → wpAny (model prog w) c.A (assign target c.env v) (fun _ s => wpAny (model prog w) c.A (execs b c.env) Q E s) E (c.st h tk)
structure Rg {prog : Program} {w : World} (c : Wc prog w) (m : Nm) (l : Led) (e : Expr) (a : Int) (n : Nat) : Prop where
  run : ∀ h tk (Q : Value → Shared → Prop) (E : Value → Shared → Prop), At c m l h → (∀ ra h' tk' t u v, IsRange h' ra a (a + n) 1 t u v → At c m l h' → Q (.ref ra) (c.st h' tk')) → wpAny (model prog w) c.A (eval e c.env) Q E (c.st h tk)
structure Turn {prog : Program} {w : World} (c : Wc prog w) (Q Q' : Flow → Shared → Prop) (own : Led) (J : Nm → Led → Prop) : Prop where
  nx : ∀ m' l', Apart own l' → J m' l' → End c Q' m' (own ++ l') .next
  rt : ∀ v m l, End c Q m l (.ret v) → End c Q' m l (.ret v)
section
variable {prog : Program} {w : World} {c : Wc prog w} {sc : Scope} {m : Nm} {l l' : Led} {e e1 e2 target : Expr} {R R1 R2 : Value → Prop} {pos pos' np tp : Pos} {x y : Str} {v : Value} {D : Addr} {k j : Nat} {a b : Int} {vs items : List Value} {n : Nat} {P : Value → Led → Prop} {rest body orelse : List Stmt} {Q : Flow → Shared → Prop}
theorem gt_name (W : c.Okf sc) (h : Go c Q (upd m x v) l body) (hl : sc.names.lookup x = some .local := by rfl) : GoT c Q m l (.Name x tp) v body := .mk fun h0 tk E H => PyProof.Rows.assign_Name (go_store W hl h H)
theorem gt_pair {v1 v2 : Value} {k9 : Nat} {p1 p2 : Pos} (W : c.Okf sc) (hm : (D, tupO [v1, v2]) ∈ l) (h : Go c Q (upd (upd m x v1) y v2) l body) (hl : sc.names.lookup x = some .local := by rfl) (hl2 : sc.names.lookup y = some .local := by rfl) : GoT c Q m l (.Tuple [.Name x p1, .Name y p2] k9 tp) (.ref D) body := .mk fun h0 tk E H => by
  refine unpackN_ (items := #[v1, v2]) H.F H.N ⟨_, (H.N _ hm).1, rfl, 0, rfl⟩ rfl rfl rfl fun h' F' N' => ?_
  have e9 := h.run
  rw [show c.env = _ from W.he] at e9 ⊢
  exact assignInOrder_cons (PyProof.Rows.assign_Name (storeX_L F' N' (fun h2 F2 N2 => assignInOrder_cons (PyProof.Rows.assign_Name (storeX_L F2 N2 (fun h3 F3 N3 => assignInOrder_nil (e9 h3 _ E ⟨F3, N3⟩)) (kind_fn W) (kind_sc W hl2)))) (kind_fn W) (kind_sc W hl)))
theorem End.sub {f : Flow} (h : End c Q m l' f) (hs : ∀ p ∈ l', p ∈ l) : End c Q m l f := .mk fun h0 tk H => h.run h0 tk (at_sub H hs)
theorem Go.sub (h : Go c Q m l' body) (hs : ∀ p ∈ l', p ∈ l) : Go c Q m l body := .mk fun h0 tk E H => h.run h0 tk E (at_sub H hs)
noncomputable abbrev Aft (c : Wc prog w) (Q : Flow → Shared → Prop) (E : Value → Shared → Prop) (rest : List Stmt) : Flow → Shared → Prop := fun f s' => match f with | .next => wpAny (model prog w) c.A (execs rest c.env) Q E s' | f => Q f s'
theorem env_L (W : c.Okf sc) : c.L = c.env.locals := by rw [show c.env = _ from W.he]
theorem turn_is (W : c.Okf sc) {h9 : Heap} {tk9 : Tok} {E : Value → Shared → Prop} {own : Led} {J : Nm → Led → Prop} : Turn c Q (TurnIs (c.st h9 tk9) c.h₀ c.env.locals own J (Aft c Q E rest)) own J :=
  ⟨fun m' l' A j => .mk fun h tk H => ⟨h, tk, m', l', rfl, env_L W ▸ H.F, env_L W ▸ H.N, A, j⟩, fun _ _ _ h => .mk fun h1 tk1 H1 => h.run h1 tk1 H1⟩
theorem go_forL (W : c.Okf sc) {li : Addr} {k9 : Nat} (J : List Value → Nm → Led → Prop) (hi : Pu c m l e (Eqv (.ref li))) (h0 : J items m l) (hmem : ∀ r m1 l1, J r m1 l1 → (li, lstO items k9) ∈ l1)
    (turn : ∀ v r m1 l1 I o Q', J (v :: r) m1 l1 → (∀ p ∈ l1, p.1 ≠ I) → Turn c Q Q' [(I, o)] (J r) → GoT c Q' m1 ((I, o) :: l1) target v body)
    (done : ∀ m1 l1, J [] m1 l1 → Go c Q m1 l1 rest) (hs : ∀ x, foldedSetIterable e c.env x = pure x := by intro _; rfl) : Go c Q m l (.For target e body [] pos :: rest) := .mk fun h9 tk E H => by
  refine wpAny_execs_cons (for_hold (hi.run h9 tk _ E H ?_) hs)
  rintro _ _ h' tk' ⟨rfl, rfl⟩ H'
  exact Hold.mk (loop_list (s := c.st h' tk') (Q := Aft c Q E rest) J rfl (env_L W ▸ H'.F) (env_L W ▸ H'.N) rfl h0 hmem (fun v r m1 l1 I o h tk hJ _ off F1 N1 => (turn v r m1 l1 I o _ hJ off (turn_is W)).run h tk _ ⟨env_L W ▸ F1, env_L W ▸ N1⟩) fun h tk m1 l1 hJ F1 N1 => (done m1 l1 hJ).run h tk E ⟨env_L W ▸ F1, env_L W ▸ N1⟩)
theorem go_forR (W : c.Okf sc) (J : Nat → Nm → Led → Prop) (hi : Rg c m l e a n)
    (ha : 0 ≤ a) (ha2 : a < 1000000) (hn : n < 1000000) (h0 : J 0 m l)
    (turn : ∀ i tv m1 l1 I o Q', i < n → J i m1 l1 → (∀ p ∈ l1, p.1 ≠ I) → Turn c Q Q' [(I, o)] (J (i + 1)) → GoT c Q' m1 ((I, o) :: l1) target (.int (a + (i : Int)) tv) body)
    (done : ∀ m1 l1, J n m1 l1 → Go c Q m1 l1 rest) (hs : ∀ x, foldedSetIterable e c.env x = pure x := by intro _; rfl) : Go c Q m l (.For target e body [] pos :: rest) := .mk fun h9 tk E H => by
  refine wpAny_execs_cons (for_hold (hi.run h9 tk _ E H ?_) hs)
  intro ra h' tk' t u v hr H'
  exact Hold.mk (loop_range (s := c.st h' tk') (Q := Aft c Q E rest) J (n := n) rfl (env_L W ▸ H'.F) (env_L W ▸ H'.N) hr (range_small (n := n) rfl ha ha2 hn) (range_size rfl) h0 (fun i tv m1 l1 I o h tk hi hJ _ off F1 N1 => (turn i tv m1 l1 I o _ hi hJ off (turn_is W)).run h tk _ ⟨env_L W ▸ F1, env_L W ▸ N1⟩) fun h tk m1 l1 hJ F1 N1 => (done m1 l1 hJ).run h tk E ⟨env_L W ▸ F1, env_L W ▸ N1⟩)
theorem ev_range1 (W : c.Okf sc) (hb : a = 0 + (n : Int)) (h : Pu c m l e (IntV a)) (hl : sc.names.lookup (Str.ofString "range") = some .globalImplicit := by rfl) (hs : starEach [e] c.env = [(false, eval e c.env)] := by rfl) :
    Rg c m l (.Call (.Name (Str.ofString "range") np) [e] [] pos) 0 n := .mk fun h0 tk Q E H kk => by
  subst hb
  refine PyProof.Rows.Call_ ((pu_bname W fact_range0 fact_range hl (by decide) (by decide)).run h0 tk _ E H ?_)
  rintro _ _ h1 tk1 ⟨rfl, rfl⟩ H1
  refine PyProof.Rows.callWith_type1 (PyProof.Rows.args_cons (h.run h1 tk1 _ E H1 ?_) hs) hs rfl
  rintro _ _ h' tk' ⟨⟨t, rfl⟩, rfl⟩ H'
  exact PyProof.Rows.args_nil (range1_rows H'.F H'.N fun h2 tk2 t1 u1 v1 hr F2 N2 _ => kk _ _ _ _ _ _ hr ⟨F2, N2⟩)
theorem ev_range2 (W : c.Okf sc) (hb : b = a + (n : Int)) (h : Pu c m l e1 (IntV a)) (h2 : Pu c m l e2 (IntV b)) (hl : sc.names.lookup (Str.ofString "range") = some .globalImplicit := by rfl) (hs : starEach [e1, e2] c.env = (false, eval e1 c.env) :: starEach [e2] c.env := by rfl) (hs2 : starEach [e2] c.env = [(false, eval e2 c.env)] := by rfl) :
    Rg c m l (.Call (.Name (Str.ofString "range") np) [e1, e2] [] pos) a n := .mk fun h0 tk Q E H kk => by
  subst hb
  refine PyProof.Rows.Call_ ((pu_bname W fact_range0 fact_range hl (by decide) (by decide)).run h0 tk _ E H ?_)
  rintro _ _ h1 tk1 ⟨rfl, rfl⟩ H1
  refine PyProof.Rows.callWith_type1 (PyProof.Rows.args_cons (h.run h1 tk1 _ E H1 ?_) hs) hs (by rw [hs2]; rfl)
  rintro _ _ h' tk' ⟨⟨t, rfl⟩, rfl⟩ H'
  refine PyProof.Rows.args_cons (h2.run h' tk' _ E H' ?_) hs2
  rintro _ _ h2 tk2 ⟨⟨t2, rfl⟩, rfl⟩ H2
  exact PyProof.Rows.args_nil (range2_rows H2.F H2.N fun h2 tk2 t1 u1 v1 hr F2 N2 _ => kk _ _ _ _ _ _ hr ⟨F2, N2⟩)
theorem tr_def {name qual : Str} {params : Arguments} {scope : Scope} {dV kV doc pm cdv ct oc : Value} {an od : Option Addr} {osl : Array (Option Value)} {f : Addr} {args : List Value} {binds : List (Str × Value)} (W : c.Ok sc)
    (ho : List.lookup f (Mine.K w.params) = some ⟨oc, od, .func (fnOf name qual params body scope dV kV doc pm an cdv ct), osl⟩) (hcd : codeIn (Mine.K w.params) cdv qual = true) (hroom : c.dp < recursionLimit)
    (hb : bindArgs (fnOf name qual params body scope dV kV doc pm an cdv ct) ⟨args, []⟩ = pure binds) (hloc : ∀ y ∈ binds, scope.names.lookup y.1 = some .local) (hco : scope.isCoroutine = false) (hgen : scope.isGenerator = false) (hk : scope.kind = .function)
    (hcell : ∀ x ∈ scope.names, x.2 ≠ .cell)
    (h : ∀ (c' : Wc prog w) Q, c'.Okf scope → c'.dp = c.dp + 1 → c'.un = c.un + 3 → (∀ v m' l', P v l' → End c' Q m' l' (.ret v)) → (∀ m' l', P .none l' → End c' Q m' l' .next) → Go c' Q (fun y => binds.reverse.lookup y) l body) :
    Tr c m l (call (.ref f) args) P := .mk fun h0 tk Q E H kk => by
  refine wpAny_call (code_def (env := envX c.cn c.cs c.L c.a c.ccd c.cl) (outer := c.outer) W.B H.F W.X H.N W.T rfl rfl (by show c.cs.kind = _; rw [W.hs]; exact W.hk) ho hcd hroom (BindsTo.of_eq hb) hloc (fun g L' h1 FG F' N' B' X' T' => ?_) hco hgen hk hcell)
  let c' : Wc prog w := ⟨c.p, c.loose, c.mean, c.mg, c.mb, c.dp + 1, c.un + 3, c.gd, qual, scope, L', f, cdv, [], envX c.cn c.cs c.L c.a c.ccd c.cl :: c.outer, c.A, c.base, g, c.st h1 (tk + binds.length), envOf qual scope L' f cdv⟩
  refine (h c' _ ⟨⟨B', X', T', rfl, hk⟩, rfl⟩ rfl rfl
    (fun v m' l' p => .mk fun h2 tk2 H2 => leaveK_ H2.F H2.N fun F3 N3 => kk _ _ _ _ p ⟨F3, N3⟩)
    (fun m' l' p => .mk fun h2 tk2 H2 => leaveK_ H2.F H2.N fun F3 N3 => kk _ _ _ _ p ⟨F3, N3⟩)).run h1 _ _ ⟨F', N'⟩
end
section
variable {prog : Program} {w : World} {c : Wc prog w} {sc : Scope} {m : Nm} {l l' : Led} {e e1 e2 : Expr} {pos np : Pos} {x : Str} {D1 : Addr} {xs : List Value} {n1 : Nat} {P P2 : Value → Led → Prop}
theorem Pu.str {k : Tok} (h : Pu c m l e (Eqv (.str x k))) : Pu c m l e (StV x) := h.mono fun _ _ q => ⟨⟨k, q.1⟩, q.2⟩
theorem ts_and2 {b1 b2 : Bool} (h1 : Ts c m l e1 b1) (h2 : Ts c m l e2 b2) : Ts c m l (.BoolOp .And [e1, e2] pos) (b1 && b2) := by
  cases b1 with
  | true => exact ts_and_t h1 (by cases b2 with
    | true => exact ts_and_t h2 ts_and_nil
    | false => exact ts_and_f h2)
  | false => exact ts_and_f h1
theorem Ext.app {led imm imm1 nw : Led} (X : Ext led imm imm1) (h : ∀ p ∈ nw, ∀ q ∈ led, p.1 ≠ q.1) : Ext led imm (nw ++ imm1) :=
  ⟨fun p hp => List.mem_append_right _ (X.sub p hp), fun p hp => (List.mem_append.mp hp).elim (fun hp => .inr (h p hp)) (X.new p)⟩
theorem ev_nil : Ev c m l (.List [] pos) (fun v l' => ∃ D, v = .ref D ∧ l' = (D, lstO [] 0) :: l ∧ AllLt D l) :=
  ev_list (P1 := fun vs l' => vs = [] ∧ l' = l) (ar_nil ⟨rfl, rfl⟩) (by rintro _ _ ⟨rfl, rfl⟩; exact ⟨by decide, fun D h => ⟨D, rfl, rfl, h⟩⟩)
theorem ev_addL (h1 : Pu c m l e1 (Eqv (.ref D1))) (h2 : Ev c m l e2 P2) (k : ∀ v l', P2 v l' → ∃ D2 ys n2, v = .ref D2 ∧ (D1, lstO xs n1) ∈ l' ∧ (D2, lstO ys n2) ∈ l' ∧ xs.length + ys.length < 1000000 ∧ ∀ D, AllLt D l' → P (.ref D) ((D, lstO (xs ++ ys) 0) :: l')) : Ev c m l (.BinOp e1 .Add e2 pos) P := .mk fun h tk Q E H kk => by
  refine wpAny_BinOp (h1.run h tk _ E H ?_)
  rintro _ _ h' tk' ⟨rfl, rfl⟩ H'
  refine h2.run h' tk' _ E H' ?_
  intro v l' h2 tk2 p H2
  obtain ⟨D2, ys, n2, rfl, m1, m2, hz, kP⟩ := k v l' p
  exact kmk_add_lit (zs := xs ++ ys) H2.F H2.N ⟨_, (H2.N _ m1).1, rfl, n1, rfl⟩ ⟨_, (H2.N _ m2).1, rfl, n2, rfl⟩ (by rw [List.toList_toArray, List.toList_toArray]) (fun D h3 F3 N3 hD => kk _ _ _ _ (kP D (allLt_iff.mpr hD)) ⟨F3, N3⟩) (by rw [sizeLine_eq, List.toList_toArray, List.toList_toArray]; omega)
theorem turnE {c : Wc prog w} {Q Q' : Flow → Shared → Prop} {I : Addr} {o : Obj} {J : Nm → Led → Prop} {m' : Nm} {l1 l' : Led} (T9 : Turn c Q Q' [(I, o)] J) (hI : ∀ p ∈ l', p.1 ≠ I) (hj : J m' l') (hs : ∀ p ∈ (I, o) :: l', p ∈ l1) : Go c Q' m' l1 [] :=
  go_nil (End.sub (T9.nx m' l' (apart_one hI) hj) hs)
end
section
variable {prog : Program} {w : World} {c : Wc prog w} {sc : Scope} {m : Nm} {l l' : Led} {e e1 e2 : Expr} {pos pos' np p1 p2 tp : Pos} {x y : Str} {k9 kk9 : Nat} {P : Value → Led → Prop} {rest : List Stmt} {Q : Flow → Shared → Prop}
theorem go_pairs {P1 P2 : Value → Led → Prop} (W : c.Okf sc) (h1 : Ev c m l e1 P1) (h2 : ∀ v l', P1 v l' → Ev c m l' e2 (fun v2 l2 => P2 v2 l2 ∧ Go c Q (upd (upd m y v2) x v) l2 rest)) (hl : sc.names.lookup x = some .local := by rfl) (hl2 : sc.names.lookup y = some .local := by rfl)
    (ha : starEach [e1, e2] c.env = (false, eval e1 c.env) :: starEach [e2] c.env := by rfl) (hb : starEach [e2] c.env = [(false, eval e2 c.env)] := by rfl)
    (hs1 : swapsWithSole [.Tuple [.Name x p1, .Name y p2] k9 tp] (.Tuple [e1, e2] kk9 pos') pos.line c.env = pure false := by rfl) (hs2 : swappedStores [.Tuple [.Name x p1, .Name y p2] k9 tp] (.Tuple [e1, e2] kk9 pos') (envX x sc 0 0 .none []) = pure (some [x, y]) := by rfl) : Go c Q m l (.Assign [.Tuple [.Name x p1, .Name y p2] k9 tp] (.Tuple [e1, e2] kk9 pos') pos :: rest) := .mk fun h0 tk E H => by
  have hs2 : swappedStores [.Tuple [.Name x p1, .Name y p2] k9 tp] (.Tuple [e1, e2] kk9 pos') c.env = pure (some [x, y]) := by
    rw [show c.env = _ from W.he, W.hs]
    exact hs2
  refine wpAny_execs_cons (Assign_Tuple_swapped (names := [x, y]) (Tuple_ (PyProof.Rows.args_cons (h1.run h0 tk _ E H ?_) ha)) hs1 hs2)
  intro v l1 h' tk' p H1
  refine PyProof.Rows.args_cons ((h2 v l1 p).run h' tk' _ E H1 ?_) hb
  intro v2 l2 h2 tk2 pg H2
  refine PyProof.Rows.args_nil (kup_newTuple H2.F H2.N (fun D h3 F3 N3 hD => ?_) (Nat.le_of_ble_eq_true rfl))
  refine unpackItemsN_ (items := #[v, v2]) F3 N3 ⟨_, (N3 _ (.head _)).1, rfl, 0, rfl⟩ rfl rfl fun h4 F4 N4 => ?_
  have e9 := pg.2.run
  rw [show c.env = _ from W.he] at e9 ⊢
  exact assignInOrder_cons (bindName_ (storeX_L F4 N4 (fun h5 F5 N5 => assignInOrder_cons (bindName_ (storeX_L F5 N5 (fun h6 F6 N6 => assignInOrder_nil (e9 h6 _ E ⟨F6, newsSub N6 fun _ h => .tail _ h⟩)) (kind_fn W) (kind_sc W hl)))) (kind_fn W) (kind_sc W hl2)))
end
theorem Two.atR {α β : Type} {R : α → β → Prop} {as : List α} {bs : List β} (h : Two R as bs) {i : Nat} {b : β} (hb : bs[i]? = some b) : ∃ a, as[i]? = some a ∧ R a b := by
  obtain ⟨a, b', ha, hb', hr⟩ := two_get h (List.getElem?_eq_some_iff.mp hb).1
  rw [hb] at hb'
  cases hb'
  exact ⟨a, ha, hr⟩
structure Pull {prog : Program} {w : World} (c : Wc prog w) (m : Nm) (it : Value) (target : Expr) (n : Nat) (lo : Led → Prop) (St : Nat → Led → Prop) (Val : Nat → Value → Led → Prop) : Prop where
  le : ∀ i own, St i own → i ≤ n
  lom : ∀ l l', (∀ p ∈ l, p ∈ l') → lo l → lo l'
  next : ∀ i own l1 h tk (Qn : Shared → Prop) (Qv : Value → Shared → Prop) (E : Value → Shared → Prop), St i own → lo l1 → Apart own l1 → At c m (own ++ l1) h →
    (i = n → ∀ h' tk', At c m l1 h' → Qn (c.st h' tk')) →
    (i < n → ∀ v ex own' h' tk', St (i + 1) own' → (∀ p ∈ own', ∃ o, (p.1, o) ∈ own) → Val i v ex → (∀ p ∈ ex, h.objs.size ≤ p.1) → At c m (ex ++ (own' ++ l1)) h' → Qv v (c.st h' tk')) →
    wpAny (model prog w) c.A (pyNext it) (fun r s => match r with | none => Qn s | some v => wpAny (model prog w) c.A (letOwnedTupleGo target it v) (fun _ s => Qv v s) E s) E (c.st h tk)
  self : ∀ i own l1 h tk (Q : Value → Shared → Prop) (E : Value → Shared → Prop), St i own → At c m (own ++ l1) h → Q it (c.st h tk) → wpAny (model prog w) c.A (pyIter it) Q E (c.st h tk)
noncomputable abbrev Wc.wenv {prog : Program} {w : World} (c : Wc prog w) (e : Env) : Wc prog w := { c with ev := e }
noncomputable def CAs {prog : Program} {w : World} (c : Wc prog w) (m : Nm) (cenv : Env) (C : Addr) (target : Expr) (v : Value) (l : Led) (R : Nm → Prop) : Prop :=
  ∀ oC m2 h tk (Q : Unit → Shared → Prop) (E : Value → Shared → Prop), LCg.NsObj oC m2 → At c m ((C, oC) :: l) h → (∀ p ∈ l, p.1 ≠ C) → (∀ oC' m2' h' tk', LCg.NsObj oC' m2' → R m2' → At c m ((C, oC') :: l) h' → Q () (c.st h' tk')) → wpAny (model prog w) c.A (assign target cenv v) Q E (c.st h tk)
noncomputable def CB {prog : Program} {w : World} (c : Wc prog w) (m : Nm) (l : Led) (elt : Expr) (Py : Value → Led → Prop) (Pn : Prop) : List Expr → Prop
  | [] => Ev c m l elt Py
  | [ct] => ∃ b, Ts c m l ct b ∧ (b = true → Ev c m l elt Py) ∧ (b = false → Pn)
  | _ => False
noncomputable abbrev lst9 (ys : List Value) : Obj := lstO ys ys.length
section
variable {prog : Program} {w : World} {A : Around} {E : Value → Shared → Prop} {s : Shared}
theorem comp_loop {elt iter target : Expr} {ifs : List Expr} {scope : Scope} {pos : Pos} {it acc : Value} {env : Env} {R : Result → Shared → Prop} (I : Nat → Shared → Prop)
    (turn : ∀ n s, I n s → ∀ E', wpAny (model prog w) A (pyNext it) (fun r s₁ => match r with
      | none => R (.ok .next) s₁
      | some v => wpAny (model prog w) A (letOwnedTupleGo target it v) (fun _ s₂ => wpAny (model prog w) A (assign target env v) (fun _ s₃ =>
          wpAny (model prog w) A (forIn ifs true fun c r => if r = true then do let ok ← isTrue c env (eval c env); pure (ForInStep.yield ok) else pure (ForInStep.yield r)) (fun ok s₄ => if ok = true then wpAny (model prog w) A (eval elt env) (fun x s₅ => wpAny (model prog w) A (call (.builtin "list.append") [acc, x]) (fun _ s₆ => ∃ m, m < n ∧ I m s₆) E' s₅) E' s₄ else ∃ m, m < n ∧ I m s₄) E' s₃) E' s₂) E' s₁) E' s)
    (n : Nat) (h : I n s) : codeAny (model prog w) A (.compLoop (.ListComp elt [⟨target, iter, ifs, 0⟩] scope pos) 0 it acc env) R s := by
  refine codeAny_loop rfl I (fun n s hI => ?_) n h
  show wpAny _ A ((compTurn (.ListComp elt [⟨target, iter, ifs, 0⟩] scope pos) 0 it acc env).onRaise (fun x => do noteFrame x env; theTreesLotGoes x)) _ _ s
  refine wpAny_noted ?_
  rw [compTurn_list]
  refine wpAny_bind (wpAny_standAt (wpAny_bind (wpAny_mono (turn n s hI _) (fun r s₁ h₁ => ?_) fun _ _ h' => h')))
  cases r with
  | none => exact wpAny_pure h₁
  | some v =>
    refine wpAny_bind (wpAny_mono h₁ (fun _ s₂ h₂ => ?_) fun _ _ h' => h')
    refine wpAny_bind (wpAny_mono h₂ (fun _ s₃ h₃ => ?_) fun _ _ h' => h')
    refine wpAny_bind (wpAny_mono h₃ (fun ok s₄ h₄ => ?_) fun _ _ h' => h')
    cases ok with
    | true => exact wpAny_bind (wpAny_bind (wpAny_mono h₄ (fun x s₅ h₅ => wpAny_bind (wpAny_mono h₅ (fun _ s₆ h₆ => wpAny_pure (wpAny_pure ⟨rfl, h₆⟩)) fun _ _ h' => h')) fun _ _ h' => h'))
    | false => exact wpAny_bind (wpAny_pure (wpAny_pure ⟨rfl, h₄⟩))
end
section
variable {prog : Program} {w : World} {c : Wc prog w} {sc : Scope} {m : Nm} {l l' : Led} {elt iter target : Expr} {ifs : List Expr} {scope : Scope} {pos px tp : Pos} {cl : List (Str × Addr)} {n : Nat} {lo : Led → Prop} {St : Nat → Led → Prop} {Val : Nat → Value → Led → Prop} {J : Nat → List Value → Led → Prop} {it : Value}
theorem memMid' {a b : Led} {x : Addr × Obj} : ∀ p ∈ a ++ x :: b, p ∈ x :: (a ++ b) := fun p h => (List.mem_append.mp h).elim (fun h => .tail _ (List.mem_append_left _ h)) fun h => by
  rcases List.mem_cons.mp h with rfl | h
  · exact .head _
  · exact .tail _ (List.mem_append_right _ h)
theorem comp_block (hcell : ∀ y ∈ scope.names, y.2 ≠ .cell) (hkind : scope.kind = .function) (U : Pull c m it target n lo St Val) (hn : n < 1000000) {own l0 : Led} (h0 : St 0 own) (hJ : J 0 [] l0) (hlo : lo l0) (hA : Apart own l0)
    (turn : ∀ i v ex own l1 ys C D, i < n → J i ys l1 → lo l1 → Val i v ex → (∀ p ∈ ex ++ (own ++ (D, lst9 ys) :: l1), p.1 ≠ C) → (∀ p ∈ l1, p.1 ≠ D) → Apart own l1 → (∀ p ∈ own, p.1 ≠ D) → ∃ R, CAs c m (compEnvC scope cl C c.ev) C target v (ex ++ (own ++ (D, lst9 ys) :: l1)) R ∧
      ∀ oC m2, LCg.NsObj oC m2 → R m2 → CB (c.wenv (compEnvC scope cl C c.ev)) m ((C, oC) :: (ex ++ (own ++ (D, lst9 ys) :: l1))) elt (fun y l' => ∃ l2, (∀ p ∈ (C, oC) :: (own ++ (D, lst9 ys) :: l2), p ∈ l') ∧ (∀ p ∈ l2, p.1 ≠ C ∧ p.1 ≠ D) ∧ Apart own l2 ∧ lo l2 ∧ J (i + 1) (ys ++ [y]) l2) (J (i + 1) ys l1) ifs)
    {h : Heap} {tk : Tok} {E : Value → Shared → Prop} {RR : Value → Addr → Result → Shared → Prop} (H : At c m (own ++ l0) h)
    (hRR : ∀ D C h' tk' m' ys l1, J n ys l1 → At c m ((D, lst9 ys) :: l1) h' → (∀ p ∈ l1, p.1 ≠ D) → h'.Ns C m' → c.h₀.get? C = none → C ≠ c.L → (∀ p ∈ (D, lst9 ys) :: l1, p.1 ≠ C) → RR (.ref D) C (.ok .next) (c.st h' tk')) :
    wpAny (model prog w) c.A (newList []) (fun acc s₃ => wpAny (model prog w) c.A (newFunctionEnv scope c.ev.globals cl [] c.ev.qual none .none (some c.ev)) (fun cenv s₄ =>
      codeAny (model prog w) c.A (.compStart (.ListComp elt [⟨target, iter, ifs, 0⟩] scope pos) 0 it acc { cenv with scope := relabel scope c.ev }) (RR acc cenv.locals) s₄) E s₃) E (c.st h tk) := by
  refine newList_K H.F H.N (fun D h1 F1 N1 hD => ?_) (Nat.zero_le _)
  refine wpAny_newFunctionEnv hcell (by intro y hy; simp at hy) (fun h2 hns2 hsb2 => ?_) hkind
  dsimp only at hns2 hsb2 ⊢
  generalize hC : h1.objs.size = C at hns2 hsb2 ⊢
  have fresh : ∀ p ∈ (D, lst9 []) :: (own ++ l0), p.1 ≠ C := fun p hp => by rw [← hC]; exact Nat.ne_of_lt (Heap.lt_size (N1 p hp).1)
  have hC0 : c.h₀.get? C = none := by
    cases e : c.h₀.get? C with
    | none => rfl
    | some o => have := Heap.lt_size (F1.keep _ _ e); rw [hC] at this; exact absurd this (Nat.lt_irrefl _)
  have hCL : C ≠ c.L := by rw [← hC]; exact Nat.ne_of_gt F1.ns.lt
  have up : ∀ b o, h1.get? b = some o → h2.get? b = some o := fun b o e => hsb2.extBut b o (by rw [← hC]; exact Nat.ne_of_lt (Heap.lt_size e)) (Heap.get?_push_of_some _ e)
  obtain ⟨oC0, heC0, hoC0⟩ := LCg.ns_obj hns2
  have loop : ∀ s3 : Shared, s3 = c.st h2 (tk + ([] : List (Str × Value)).length) → codeAny (model prog w) c.A (.compLoop (.ListComp elt [⟨target, iter, ifs, 0⟩] scope pos) 0 it (.ref D) (compEnvC scope cl C c.ev)) (RR (.ref D) C) s3 := by
    rintro s3 rfl
    refine comp_loop (fun k s' => ∃ h' tk' i ys m' oC l1 own, s' = c.st h' tk' ∧ k = n + 1 - i ∧ i ≤ n ∧ ys.length ≤ i ∧ St i own ∧ J i ys l1 ∧ lo l1 ∧ Apart own l1 ∧ At c m (own ++ (C, oC) :: (D, lst9 ys) :: l1) h' ∧ LCg.NsObj oC m' ∧ (∀ p ∈ own ++ (D, lst9 ys) :: l1, p.1 ≠ C) ∧ (∀ p ∈ l1, p.1 ≠ D) ∧ (∀ p ∈ own, p.1 ≠ D)) ?_ (n + 1)
      ⟨h2, _, 0, [], _, oC0, l0, own, rfl, rfl, Nat.zero_le _, Nat.le_refl _, h0, hJ, hlo, hA, ⟨F1.keeps up, ?_⟩, hoC0, fun p hp => fresh p (memMid' p hp), fun p hp => Nat.ne_of_lt (hD p (List.mem_append_right _ hp)), fun p hp => Nat.ne_of_lt (hD p (List.mem_append_left _ hp))⟩
    · rintro k _ ⟨h', tk', i, ys, m', oC, l1, own, rfl, rfl, hi, hyl, hS, hJ, hlo, hA, H', hN, offC, offD, ownD⟩ E'
      have offC2 : ∀ p ∈ own, p.1 ≠ C := fun p hp => offC p (List.mem_append_left _ hp)
      have HC : C < h'.objs.size := Heap.lt_size (H'.N (C, oC) (List.mem_append_right _ (.head _))).1
      refine U.next i own ((C, oC) :: (D, lst9 ys) :: l1) h' tk' _ _ E' hS (U.lom _ _ (fun p h => .tail _ (.tail _ h)) hlo) (fun p hp q hq => ?_) H' ?_ ?_
      · rcases List.mem_cons.mp hq with rfl | hq
        · exact offC2 p hp
        rcases List.mem_cons.mp hq with rfl | hq
        · exact ownD p hp
        · exact hA p hp q hq
      · rintro rfl h'' tk'' H''
        exact hRR D C h'' tk'' m' ys l1 hJ (at_sub H'' fun p hp => .tail _ hp) offD (hN.ns (H''.N _ (.head _)).1) hC0 hCL fun p hp => offC p (List.mem_append_right _ hp)
      · intro hlt v ex own' h'' tk'' hS' how hval hex H''
        have exC : ∀ p ∈ ex, p.1 ≠ C := fun p hp => Nat.ne_of_gt (Nat.lt_of_lt_of_le HC (hex p hp))
        have ownC' : ∀ p ∈ own', p.1 ≠ C := fun p hp => let ⟨o, ho⟩ := how p hp; offC2 (p.1, o) ho
        have ownD' : ∀ p ∈ own', p.1 ≠ D := fun p hp => let ⟨o, ho⟩ := how p hp; ownD (p.1, o) ho
        have hA' : Apart own' l1 := fun p hp q hq => let ⟨o, ho⟩ := how p hp; hA (p.1, o) ho q hq
        have offC' : ∀ p ∈ ex ++ (own' ++ (D, lst9 ys) :: l1), p.1 ≠ C := List.forall_mem_append.mpr ⟨exC, List.forall_mem_append.mpr ⟨ownC', fun p hp => offC p (List.mem_append_right _ hp)⟩⟩
        obtain ⟨R, as, body⟩ := turn i v ex own' l1 ys C D hlt hJ hlo hval offC' offD hA' ownD'
        refine as oC m' h'' tk'' _ E' hN (at_sub H'' fun p hp => ?_) offC' fun oC' m2' h3 tk3 hN' hR H3 => ?_
        · rcases List.mem_cons.mp hp with rfl | hp
          · exact List.mem_append_right _ (List.mem_append_right _ (.head _))
          · exact (List.mem_append.mp hp).elim (List.mem_append_left _) fun hp => List.mem_append_right _ ((List.mem_append.mp hp).elim (List.mem_append_left _) fun hp => List.mem_append_right _ (.tail _ hp))
        have b := body oC' m2' hN' hR
        have app : ∀ y l' h4 tk4, (∃ l2, (∀ p ∈ (C, oC') :: (own' ++ (D, lst9 ys) :: l2), p ∈ l') ∧ (∀ p ∈ l2, p.1 ≠ C ∧ p.1 ≠ D) ∧ Apart own' l2 ∧ lo l2 ∧ J (i + 1) (ys ++ [y]) l2) → At (c.wenv (compEnvC scope cl C c.ev)) m l' h4 →
            wpAny (model prog w) c.A (call (.builtin "list.append") [.ref D, y]) (fun _ s₆ => ∃ m9, m9 < n + 1 - i ∧ ∃ h' tk' i ys m' oC l1 own, s₆ = c.st h' tk' ∧ m9 = n + 1 - i ∧ i ≤ n ∧ ys.length ≤ i ∧ St i own ∧ J i ys l1 ∧ lo l1 ∧ Apart own l1 ∧ At c m (own ++ (C, oC) :: (D, lst9 ys) :: l1) h' ∧ LCg.NsObj oC m' ∧ (∀ p ∈ own ++ (D, lst9 ys) :: l1, p.1 ≠ C) ∧ (∀ p ∈ l1, p.1 ≠ D) ∧ (∀ p ∈ own, p.1 ≠ D)) E' (c.st h4 tk4) := by
          rintro y l' h4 tk4 ⟨l2, hs2, off2, ap2, lo2, J2⟩ H4
          have N4 : News c.h₀ c.L h4 ((D, lst9 ys) :: (C, oC') :: (own' ++ l2)) := newsSub H4.N fun p hp => hs2 p (by
            rcases List.mem_cons.mp hp with rfl | hp
            · exact .tail _ (List.mem_append_right _ (.head _))
            rcases List.mem_cons.mp hp with rfl | hp
            · exact .head _
            · exact .tail _ ((List.mem_append.mp hp).elim (List.mem_append_left _) fun hp => List.mem_append_right _ (.tail _ hp)))
          have e9 : PySem.W.listOf (ys.toArray.push y) (ys.length + 1) = lst9 (ys ++ [y]) := by simp [PySem.W.listOf, lst9, lstO]
          refine append_K (its := ys.toArray) (n := ys.length) H4.F N4 (.head (List.forall_mem_cons.mpr ⟨Ne.symm (offC (D, lst9 ys) (List.mem_append_right _ (.head _))), List.forall_mem_append.mpr ⟨ownD', fun p hp => (off2 p hp).2⟩⟩)) (fun h5 F5 N5 => ?_) (by rw [sizeLine_eq, List.size_toArray]; omega)
          rw [e9] at N5
          exact ⟨n + 1 - (i + 1), by omega, h5, _, i + 1, ys ++ [y], m2', oC', l2, own', rfl, rfl, hlt, by simp; omega, hS', J2, lo2, ap2, ⟨F5, newsSub N5 fun p hp => by
            rcases List.mem_append.mp hp with hp | hp
            · exact .tail _ (.tail _ (List.mem_append_left _ hp))
            rcases List.mem_cons.mp hp with rfl | hp
            · exact .tail _ (.head _)
            rcases List.mem_cons.mp hp with rfl | hp
            · exact .head _
            · exact .tail _ (.tail _ (List.mem_append_right _ hp))⟩, hN', List.forall_mem_append.mpr ⟨ownC', List.forall_mem_cons.mpr ⟨offC (D, lst9 ys) (List.mem_append_right _ (.head _)), fun p hp => (off2 p hp).1⟩⟩, fun p hp => (off2 p hp).2, ownD'⟩
        rcases ifs with _ | ⟨ct, _ | ⟨_, _⟩⟩
        · refine wpAny_tests_nil ?_
          rw [if_pos rfl]
          exact Tr.run b h3 tk3 _ E' ⟨H3.F, H3.N⟩ fun y l' h4 tk4 p H4 => app y l' h4 tk4 p H4
        · obtain ⟨bb, ht, hy, hno⟩ := b
          refine wpAny_tests_one (ht.run h3 tk3 _ E' ⟨H3.F, H3.N⟩ ?_)
          rintro v9 _ h4 tk4 ⟨e9, rfl⟩ H4
          cases v9 with
          | true =>
            rw [if_pos rfl]
            exact (hy e9.symm).run h4 tk4 _ E' H4 fun y l' h5 tk5 p H5 => app y l' h5 tk5 p H5
          | false =>
            rw [if_neg Bool.false_ne_true]
            exact ⟨n + 1 - (i + 1), by omega, h4, tk4, i + 1, ys, m2', oC', l1, own', rfl, rfl, hlt, by omega, hS', hno e9.symm, hlo, hA', ⟨H4.F, newsSub H4.N fun p hp => by
              rcases List.mem_append.mp hp with hp | hp
              · exact .tail _ (List.mem_append_right _ (List.mem_append_left _ hp))
              rcases List.mem_cons.mp hp with rfl | hp
              · exact .head _
              · exact .tail _ (List.mem_append_right _ (List.mem_append_right _ hp))⟩, hN', List.forall_mem_append.mpr ⟨ownC', fun p hp => offC p (List.mem_append_right _ hp)⟩, offD, ownD'⟩
        · exact b.elim
    · refine fun p hp => ?_
      rcases List.mem_append.mp hp with hp | hp
      · exact ⟨up _ _ (N1 p (.tail _ (List.mem_append_left _ hp))).1, (N1 p (.tail _ (List.mem_append_left _ hp))).2⟩
      rcases List.mem_cons.mp hp with rfl | hp
      · exact ⟨heC0, hCL, hC0⟩
      rcases List.mem_cons.mp hp with rfl | hp
      · exact ⟨up _ _ (N1 _ (.head _)).1, (N1 _ (.head _)).2⟩
      · exact ⟨up _ _ (N1 p (.tail _ (List.mem_append_right _ hp))).1, (N1 p (.tail _ (List.mem_append_right _ hp))).2⟩
  exact codeAny_compStart_list (loop _ rfl) (U.self 0 own l0 _ _ _ _ h0 ⟨F1.keeps up, fun p hp => ⟨up _ _ (N1 p (.tail _ hp)).1, (N1 p (.tail _ hp)).2⟩⟩ (loop _ rfl))
end
section
variable {prog : Program} {w : World} {c : Wc prog w} {sc : Scope} {m : Nm} {l l' : Led} {target e : Expr} {n : Nat} {I li e9 it9 : Addr} {items : List Value} {k9 : Nat} {a : Int}
theorem at_same {own l1 : Led} {o' : Obj} {h h1 : Heap} {o : Obj} (H : At c m ((I, o) :: l1) h) (off : ∀ p ∈ l1, p.1 ≠ I) (hs : Heap.SameBut I h h1) (ho : h1.get? I = some o') : At c m ((I, o') :: l1) h1 := by
  have z := H.N (I, o) (.head _)
  exact ⟨fr_same H.F z.2.2 z.2.1 hs, fun p hp => (List.mem_cons.mp hp).elim (fun e => e ▸ ⟨ho, z.2⟩) fun hp => news_same (newsSub H.N fun _ h => .tail _ h) off hs p hp⟩
noncomputable abbrev StL (I li : Addr) (N : Nat) (i : Nat) (own : Led) : Prop := ∃ o, own = [(I, o)] ∧ (o.cls = .type "list_iterator" ∧ o.data = .fields #[.ref li, .int (i : Int) 0]) ∧ i ≤ N
theorem pull_list : Pull c m (.ref I) target items.length (fun l => (li, lstO items k9) ∈ l) (StL I li items.length) (fun i v ex => ex = [] ∧ items[i]? = some v) where
  le := fun i own ⟨o, _, _, h⟩ => h
  lom := fun l l' hs h => hs _ h
  self := fun i own l1 h tk Q E ⟨o, e, hd, _⟩ H q => by
    subst e
    exact wpAny_pyIter_listiter ⟨o, (H.N _ (.head _)).1, hd.1, hd.2⟩ q
  next := by
    rintro i own l1 h tk Qn Qv E ⟨o, rfl, hd, hi⟩ hl hA H hn hv
    have off : ∀ p ∈ l1, p.1 ≠ I := fun p hp => Ne.symm (hA _ (.head _) p hp)
    have z := H.N (I, o) (.head _)
    have hit : h.IsListIter I li i := ⟨o, z.1, hd.1, hd.2⟩
    have hl' : h.IsList li items.toArray := ⟨_, (H.N _ (.tail _ hl)).1, rfl, k9, rfl⟩
    rcases Nat.lt_or_ge i items.length with hlt | hge
    · refine wpAny_pyNext_list_item hit hl' (x := items[i]) (by simp [hlt]) fun h₁ hit₁ hs₁ => ?_
      obtain ⟨o', ho', hc', hd'⟩ := id hit₁
      exact letGo_listiter hit₁ (hv hlt items[i] [] [(I, o')] h₁ tk ⟨o', rfl, ⟨hc', hd'⟩, hlt⟩ (fun p hp => by rw [List.mem_singleton.mp hp]; exact ⟨o, .head _⟩) ⟨rfl, by simp [hlt]⟩ (fun _ hp => nomatch hp) (at_same (own := l1) H off hs₁ ho'))
    · have : i = items.length := Nat.le_antisymm hi hge
      subst this
      refine wpAny_pyNext_list_end rfl hit hl' (by simp) fun h₁ he₁ => hn rfl h₁ tk ⟨?_, fun p hp => ?_⟩
      · exact ⟨H.F.ns.at' fun o e => he₁ _ o (Ne.symm z.2.1) e, fun b o e => he₁ b o (fun q => by rw [q, z.2.2] at e; cases e) (H.F.keep b o e), H.F.above⟩
      · have y := H.N p (.tail _ hp)
        exact ⟨he₁ _ _ (off p hp) y.1, y.2⟩
noncomputable abbrev StR (I : Addr) (a : Int) (N : Nat) (i : Nat) (own : Led) : Prop := own = [(I, rIt (a + (i : Int)) ((N : Int) - (i : Int)))] ∧ i ≤ N
theorem pull_range : Pull c m (.ref I) target n (fun _ => True) (StR I a n) (fun i v ex => ex = [] ∧ ∃ t, v = .int (a + (i : Int)) t) where
  le := fun i own h => h.2
  lom := fun _ _ _ h => h
  self := fun i own l1 h tk Q E ⟨e, _⟩ H q => by
    subst e
    exact wpAny_pyIter_rangeiter (H.N _ (.head _)).1 q
  next := by
    rintro i own l1 h tk Qn Qv E ⟨rfl, hi⟩ hl hA H hn hv
    have off : ∀ p ∈ l1, p.1 ≠ I := fun p hp => Ne.symm (hA _ (.head _) p hp)
    have z := H.N (I, rIt (a + (i : Int)) ((n : Int) - (i : Int))) (.head _)
    have hit : IsRangeIter h I (a + (i : Int)) ((n : Int) - (i : Int)) 1 := z.1
    rcases Nat.lt_or_ge i n with hlt | hge
    · refine wpAny_pyNext_range_item hit (by omega) fun h₁ hit₁ hs₁ => ?_
      have e1 : a + (i : Int) + 1 = a + ((i + 1 : Nat) : Int) := by omega
      have e2 : (n : Int) - (i : Int) - 1 = (n : Int) - ((i + 1 : Nat) : Int) := by omega
      rw [e1, e2] at hit₁
      exact letGo_rangeiter hit₁ (hv hlt _ [] [(I, rIt (a + ((i + 1 : Nat) : Int)) ((n : Int) - ((i + 1 : Nat) : Int)))] h₁ _ ⟨rfl, hlt⟩ (fun p hp => by rw [List.mem_singleton.mp hp]; exact ⟨_, .head _⟩) ⟨rfl, _, rfl⟩ (fun _ hp => nomatch hp) (at_same (own := l1) H off hs₁ hit₁))
    · have : i = n := Nat.le_antisymm hi hge
      subst this
      refine wpAny_pyNext_range_end rfl hit (by omega) fun h₁ he₁ => hn rfl h₁ tk ⟨?_, fun p hp => ?_⟩
      · exact ⟨H.F.ns.at' fun o e => he₁ _ o (Ne.symm z.2.1) e, fun b o e => he₁ b o (fun q => by rw [q, z.2.2] at e; cases e) (H.F.keep b o e), H.F.above⟩
      · have y := H.N p (.tail _ hp)
        exact ⟨he₁ _ _ (off p hp) y.1, y.2⟩
noncomputable abbrev StE (e9 it9 li : Addr) (N : Nat) (i : Nat) (own : Led) : Prop := ∃ old oi, own = [(e9, enumO it9 (i : Int) old), (it9, oi)] ∧ (oi.cls = .type "list_iterator" ∧ oi.data = .fields #[.ref li, .int (i : Int) 0]) ∧ i ≤ N
theorem pull_enum {elts : List Expr} {x1 : Nat} {tpos : Pos} (hei : e9 ≠ it9) : Pull c m (.ref e9) (.Tuple elts x1 tpos) items.length (fun l => (li, lstO items k9) ∈ l) (StE e9 it9 li items.length) (fun i v ex => ∃ Tt tv x, v = .ref Tt ∧ items[i]? = some x ∧ ex = [(Tt, tupO [.int (i : Int) tv, x])]) where
  le := fun i own ⟨_, _, _, _, h⟩ => h
  lom := fun l l' hs h => hs _ h
  self := fun i own l1 h tk Q E ⟨old, oi, e, hd, _⟩ H q => by
    subst e
    exact wpAny_pyIter_enum (H.N _ (.head _)).1 q
  next := by
    rintro i own l1 h tk Qn Qv E ⟨old, oi, rfl, hd, hi⟩ hl hA H hn hv
    have offe : ∀ p ∈ l1, p.1 ≠ e9 := fun p hp => Ne.symm (hA _ (.head _) p hp)
    have off : ∀ p ∈ l1, p.1 ≠ it9 := fun p hp => Ne.symm (hA _ (.tail _ (.head _)) p hp)
    have ze := H.N (e9, enumO it9 (i : Int) old) (.head _)
    have zi := H.N (it9, oi) (.tail _ (.head _))
    have N' : News c.h₀ c.L h l1 := newsSub H.N fun _ h => .tail _ (.tail _ h)
    have hit : h.IsListIter it9 li i := ⟨oi, zi.1, hd.1, hd.2⟩
    have he : IsEnum h e9 it9 (i : Int) old := ze.1
    have hl' : h.IsList li items.toArray := ⟨_, (N' _ hl).1, rfl, k9, rfl⟩
    rcases Nat.lt_or_ge i items.length with hlt | hge
    · refine wpAny_pyNext_enum_item he hit hl' (x := items[i]) (by simp [hlt]) hei fun h₁ he₁ hit₁ hT₁ hz₁ hs₁ => ?_
      refine wpAny_letOwnedTupleGo_enum he₁ fun h₂ he₂ hs₂ => ?_
      have F₁ := fr_same2 H.F zi.2.2 zi.2.1 ze.2.2 ze.2.1 hs₁
      have N₁ := news_same2 N' off offe hs₁
      have F₂ := fr_same F₁ ze.2.2 ze.2.1 hs₂
      have N₂ := news_same N₁ offe hs₂
      have hsz : h.objs.size ≠ e9 := Nat.ne_of_gt (Heap.lt_size he)
      obtain ⟨oi', hoi₁, hc, hd'⟩ := id hit₁
      have hoi₂ : h₂.get? it9 = some oi' := (hs₂.2 it9 (Ne.symm hei)).trans hoi₁
      have hT₂ : h₂.get? h.objs.size = some (tupO [.int (i : Int) tk, items[i]]) := (hs₂.2 _ hsz).trans hT₁
      refine hv hlt (.ref h.objs.size) [(h.objs.size, tupO [.int (i : Int) tk, items[i]])] [(e9, enumO it9 ((i + 1 : Nat) : Int) items[i]), (it9, oi')] h₂ _ ⟨_, oi', rfl, ⟨hc, hd'⟩, hlt⟩ ?_ ⟨_, tk, items[i], rfl, by simp [hlt], rfl⟩ (fun p hp => by rw [List.mem_singleton.mp hp]; exact Nat.le_refl _) ⟨F₂, fun p hp => ?_⟩
      · intro p hp
        rcases List.mem_cons.mp hp with rfl | hp
        · exact ⟨_, .head _⟩
        · rw [List.mem_singleton.mp hp]; exact ⟨_, .tail _ (.head _)⟩
      · rcases List.mem_cons.mp hp with rfl | hp
        · refine ⟨hT₂, Nat.ne_of_gt H.F.ns.lt, ?_⟩
          cases q : c.h₀.get? h.objs.size with
          | none => rfl
          | some o => exact absurd (Heap.lt_size (H.F.keep _ _ q)) (Nat.lt_irrefl _)
        rcases List.mem_cons.mp hp with rfl | hp
        · exact ⟨he₂, ze.2⟩
        rcases List.mem_cons.mp hp with rfl | hp
        · exact ⟨hoi₂, zi.2⟩
        · exact N₂ p hp
    · have : i = items.length := Nat.le_antisymm hi hge
      subst this
      refine wpAny_pyNext_enum_end rfl he hit hl' (by simp) fun h₁ he₁ => hn rfl h₁ tk ⟨?_, fun p hp => ?_⟩
      · exact ⟨H.F.ns.at' fun o e => he₁ _ o (Ne.symm zi.2.1) e, fun b o e => he₁ b o (fun q => by rw [q, zi.2.2] at e; cases e) (H.F.keep b o e), H.F.above⟩
      · exact ⟨he₁ _ _ (off p hp) (N' p hp).1, (N' p hp).2⟩
end
section
variable {prog : Program} {w : World} {c : Wc prog w} {sc : Scope} {m : Nm} {l l' : Led} {target e elt iter : Expr} {n : Nat} {li C D : Addr} {items : List Value} {k9 : Nat} {a : Int} {x y : Str} {v : Value} {scope : Scope} {cl : List (Str × Addr)} {pos np tp spos py : Pos} {ifs : List Expr} {lo : Led → Prop} {Val : Nat → Value → Led → Prop} {J : Nat → List Value → Led → Prop} {rest : List Stmt} {Q : Flow → Shared → Prop}
theorem apart_two' {I e : Addr} {o o' : Obj} {l : Led} (h : ∀ p ∈ l, p.1 ≠ I) (h' : ∀ p ∈ l, p.1 ≠ e) : Apart [(I, o), (e, o')] l := apart_two h h'
structure Src (c : Wc prog w) (m : Nm) (l : Led) (iter target : Expr) (n : Nat) (lo : Led → Prop) (Val : Nat → Value → Led → Prop) : Prop where
  run : ∀ h tk (Q : Value → Shared → Prop) (E : Value → Shared → Prop), At c m l h →
  (∀ it own St h' tk', Pull c m it target n lo St Val → St 0 own → Apart own l → At c m (own ++ l) h' → Q it (c.st h' tk')) → wpAny (model prog w) c.A (eval iter c.env) (fun x s => wpAny (model prog w) c.A (pyIter x) Q E s) E (c.st h tk)
theorem at_push {o : Obj} {h : Heap} (hf : o.isFreed = false) (H : At c m l h) : At c m ((h.objs.size, o) :: l) (h.push o) ∧ Apart [(h.objs.size, o)] l :=
  ⟨⟨H.F.push _, fun p hp => by
    rcases List.mem_cons.mp hp with rfl | hp
    · exact ⟨Heap.get?_push_size _ hf, new_addr (s := c.st h 0) H.F⟩
    · exact ⟨Heap.get?_push_of_some _ (H.N p hp).1, (H.N p hp).2⟩⟩, apart_one fun p hp => Nat.ne_of_lt (Heap.lt_size (H.N p hp).1)⟩
theorem src_list (hi : Pu c m l iter (Eqv (.ref li))) (hm : (li, lstO items k9) ∈ l) : Src c m l iter target items.length (fun l => (li, lstO items k9) ∈ l) (fun i v ex => ex = [] ∧ items[i]? = some v) := .mk fun h tk Q E H k => by
  refine hi.run h tk _ E H ?_
  rintro _ _ h' tk' ⟨rfl, rfl⟩ H'
  refine wpAny_pyIter_list (items := items.toArray) ⟨_, (H'.N _ hm).1, rfl, k9, rfl⟩ ?_
  obtain ⟨H2, A2⟩ := at_push (o := { cls := .type "list_iterator", data := .fields #[.ref li, .int 0 0] }) rfl H'
  exact k (.ref h'.objs.size) [_] (StL h'.objs.size li items.length) _ _ pull_list ⟨_, rfl, ⟨rfl, rfl⟩, Nat.zero_le _⟩ A2 H2
theorem src_range (hi : Rg c m l iter a n) (ha : 0 ≤ a) (ha2 : a < 1000000) (hn : n < 1000000) :
    Src c m l iter target n (fun _ => True) (fun i v ex => ex = [] ∧ ∃ t, v = .int (a + (i : Int)) t) := .mk fun h tk Q E H k => by
  refine hi.run h tk _ E H ?_
  intro ra h' tk' t u v hr H'
  refine wpAny_pyIter_range hr (range_small (n := n) rfl ha ha2 hn) ?_
  rw [range_size (n := n) rfl]
  have e9 : rIt (a + ((0 : Nat) : Int)) ((n : Int) - ((0 : Nat) : Int)) = { cls := .type "range_iterator", dict := none, data := .fields #[rawInt a, rawInt (n : Int), rawInt 1], slots := #[] } := by simp [rIt]
  obtain ⟨H2, A2⟩ := at_push (o := rIt (a + ((0 : Nat) : Int)) ((n : Int) - ((0 : Nat) : Int))) rfl H'
  rw [e9] at H2 A2
  exact k (.ref h'.objs.size) [_] (StR h'.objs.size a n) _ _ pull_range ⟨by rw [e9], Nat.zero_le _⟩ A2 H2
theorem src_enum {elts : List Expr} {x1 : Nat} {tpos : Pos} (W : c.Okf sc) (hi : Pu c m l e (Eqv (.ref li))) (hm : (li, lstO items k9) ∈ l) (hl : sc.names.lookup (Str.ofString "enumerate") = some .globalImplicit := by rfl) (hs : starEach [e] c.env = [(false, eval e c.env)] := by rfl) :
    Src c m l (.Call (.Name (Str.ofString "enumerate") np) [e] [] pos) (.Tuple elts x1 tpos) items.length (fun l => (li, lstO items k9) ∈ l) (fun i v ex => ∃ Tt tv x, v = .ref Tt ∧ items[i]? = some x ∧ ex = [(Tt, tupO [.int (i : Int) tv, x])]) := .mk fun h tk Q E H k => by
  refine PyProof.Rows.Call_ ((pu_bname W fact_enum0 fact_enum hl (by decide) (by decide)).run h tk _ E H ?_)
  rintro _ _ h1 tk1 ⟨rfl, rfl⟩ H1
  refine PyProof.Rows.callWith_type1 (PyProof.Rows.args_cons (hi.run h1 tk1 _ E H1 ?_) hs) hs rfl
  rintro _ _ h' tk' ⟨rfl, rfl⟩ H'
  refine PyProof.Rows.args_nil (enum_new H'.F H'.N hm fun e9 it9 io h2 hio hei F2 N2 le li9 => ?_)
  exact wpAny_pyIter_enum (N2 _ (.head _)).1 (k (.ref e9) [(e9, enumO it9 0 .none), (it9, io)] (StE e9 it9 li items.length) _ _ (pull_enum hei) ⟨.none, io, rfl, hio, Nat.zero_le _⟩ (apart_two' (fun p hp => Nat.ne_of_lt (allLt_iff.mp le p hp)) fun p hp => Nat.ne_of_lt (allLt_iff.mp li9 p hp)) ⟨F2, N2⟩)
theorem comp_kind (W : c.Okf sc) : Env.kindOf (compEnvC scope cl C c.ev) x = Env.kindOf (compEnvC scope [] 0 (envX x sc 0 0 .none [])) x := by
  rw [W.he]
  show ((relabel scope (envX c.cn c.cs c.L c.a c.ccd c.cl)).names.lookup x) = _
  unfold relabel
  rw [W.hs]
  rfl
theorem pc_own {oC : Obj} {m2 : Nm} (W : c.Okf sc) (hk : scope.kind = .function) (hm : (C, oC) ∈ l) (hN : LCg.NsObj oC m2) (hv : m2 x = some v) (hx : Env.kindOf (compEnvC scope [] 0 (envX x sc 0 0 .none [])) x = some .local := by rfl) (hd : (x == ("__debug__" : Str)) = false := by decide) : Pu (c.wenv (compEnvC scope cl C c.ev)) m l (.Name x pos) (Eqv v) := .mk fun h tk Q E H k =>
  LCgL.ld_own H.N hm hN hv (k _ _ _ _ ⟨rfl, rfl⟩ H) hk (by rw [comp_kind W]; exact hx) hd
theorem pc_cell {ca : Addr} {o : Obj} (W : c.Okf sc) (hk : scope.kind = .function) (hc : cl.lookup x = some ca) (hm : (ca, o) ∈ l) (ho : o.data = .cell (some v)) (hx : Env.kindOf (compEnvC scope [] 0 (envX x sc 0 0 .none [])) x = some .cell := by rfl) (hd : (x == ("__debug__" : Str)) = false := by decide) : Pu (c.wenv (compEnvC scope cl C c.ev)) m l (.Name x pos) (Eqv v) := .mk fun h tk Q E H k =>
  lcf_cell H.N hc hm ho (k _ _ _ _ ⟨rfl, rfl⟩ H) hk (by rw [comp_kind W]; exact hx) hd
theorem pc_glob {a9 : Value} (W : c.Okf sc) (hk : scope.kind = .function) (hf : ∀ P, nsIn (Mine.K P) mainGlobals x = some (some a9)) (hx : Env.kindOf (compEnvC scope [] 0 (envX x sc 0 0 .none [])) x = some .globalImplicit := by rfl) (hd : (x == ("__debug__" : Str)) = false := by decide) : Pu (c.wenv (compEnvC scope cl C c.ev)) m l (.Name x pos) (Eqv a9) := .mk fun h tk Q E H k =>
  LCgL.ld_global H.F W.X W.T (hf _) (k _ _ _ _ ⟨rfl, rfl⟩ H) (by rw [W.he]) hk (by rw [comp_kind W]; exact hx) hd
theorem pc_built {a9 : Value} (W : c.Okf sc) (hk : scope.kind = .function) (hf : ∀ P, nsIn (Mine.K P) mainGlobals x = some none) (hb : bootBuiltins x = some a9) (hx : Env.kindOf (compEnvC scope [] 0 (envX x sc 0 0 .none [])) x = some .globalImplicit := by rfl) (hd : (x == ("__debug__" : Str)) = false := by decide) (hn : x ≠ ("__name__" : Str) := by decide) : Pu (c.wenv (compEnvC scope cl C c.ev)) m l (.Name x pos) (Eqv a9) := .mk fun h tk Q E H k =>
  LCgL.ld_built H.F W.X W.T (hf _) hb hn (k _ _ _ _ ⟨rfl, rfl⟩ H) (by rw [W.he]) (by rw [W.he]) hk (by rw [comp_kind W]; exact hx) hd
theorem cas_store {h9 : Heap} {tk9 : Tok} {oC : Obj} {m2 : Nm} {Q : Unit → Shared → Prop} {E : Value → Shared → Prop} (hk : scope.kind = .function) (hx : scope.names.lookup x = some .local) (hN : LCg.NsObj oC m2) (H : At c m ((C, oC) :: l) h9) (off : ∀ p ∈ l, p.1 ≠ C)
    (k : ∀ oC' h' tk', LCg.NsObj oC' (upd m2 x v) → At c m ((C, oC') :: l) h' → Q () (c.st h' tk')) : wpAny (model prog w) c.A (storeName (compEnvC scope cl C c.ev) x v) Q E (c.st h9 tk9) := by
  have z := H.N (C, oC) (.head _)
  refine wpAny_storeName_local (lookup_relabel_local hx) (hN.ns z.1) (fun h' hn hs => ?_) (by simp [compEnvC, relabel, hk])
  obtain ⟨oC', ho', hN'⟩ := LCg.ns_obj hn
  exact k oC' h' _ hN' ⟨H.F.change hs z.2.1 z.2.2, fun p hp => (List.mem_cons.mp hp).elim (fun e => e ▸ ⟨ho', z.2⟩) fun hp => ⟨hs.extBut _ _ (off p hp) (H.N p (.tail _ hp)).1, (H.N p (.tail _ hp)).2⟩⟩
theorem cas_name (hk : scope.kind = .function) (hx : scope.names.lookup x = some .local) : CAs c m (compEnvC scope cl C c.ev) C (.Name x pos) v l (fun m2 => m2 x = some v) := fun oC m2 h tk Q E hN H off k =>
  wpAny_assign_Name (cas_store hk hx hN H off fun oC' h' tk' hN' H' => k oC' _ h' tk' hN' (by simp [upd]) H')
theorem cas_pair {v1 v2 : Value} {p1 p2 : Pos} (hk : scope.kind = .function) (hx : scope.names.lookup x = some .local) (hy : scope.names.lookup y = some .local) (hxy : x ≠ y) (hm : (D, tupO [v1, v2]) ∈ l) : CAs c m (compEnvC scope cl C c.ev) C (.Tuple [.Name x p1, .Name y p2] k9 tp) (.ref D) l (fun m2 => m2 x = some v1 ∧ m2 y = some v2) := fun oC m2 h tk Q E hN H off k => by
  refine unpackN_ (items := #[v1, v2]) H.F H.N ⟨_, (H.N _ (.tail _ hm)).1, rfl, 0, rfl⟩ rfl rfl rfl fun h' F' N' => ?_
  exact assignInOrder_cons (wpAny_assign_Name (cas_store hk hx hN ⟨F', N'⟩ off fun oC' h2 tk2 hN2 H2 => assignInOrder_cons (wpAny_assign_Name (cas_store hk hy hN2 H2 off fun oC3 h3 tk3 hN3 H3 => assignInOrder_nil (k oC3 _ h3 tk3 hN3 ⟨by simp [upd, hxy], by simp [upd]⟩ H3)))))
end
section
variable {prog : Program} {w : World} {c : Wc prog w} {sc : Scope} {m : Nm} {l l' : Led} {target e elt iter : Expr} {n : Nat} {y : Str} {scope : Scope} {cl : List (Str × Addr)} {pos np tp spos py : Pos} {ifs : List Expr} {lo : Led → Prop} {Val : Nat → Value → Led → Prop} {J : Nat → List Value → Led → Prop} {rest : List Stmt} {Q : Flow → Shared → Prop}
noncomputable def CTurn (c : Wc prog w) (m : Nm) (scope : Scope) (cl : List (Str × Addr)) (target elt : Expr) (ifs : List Expr) (n : Nat) (lo : Led → Prop) (Val : Nat → Value → Led → Prop) (J : Nat → List Value → Led → Prop) : Prop :=
  ∀ i v ex own l1 ys C D, i < n → J i ys l1 → lo l1 → Val i v ex → (∀ p ∈ ex ++ (own ++ (D, lst9 ys) :: l1), p.1 ≠ C) → (∀ p ∈ l1, p.1 ≠ D) → Apart own l1 → (∀ p ∈ own, p.1 ≠ D) → ∃ R, CAs c m (compEnvC scope cl C c.ev) C target v (ex ++ (own ++ (D, lst9 ys) :: l1)) R ∧
      ∀ oC m2, LCg.NsObj oC m2 → R m2 → CB (c.wenv (compEnvC scope cl C c.ev)) m ((C, oC) :: (ex ++ (own ++ (D, lst9 ys) :: l1))) elt (fun y l' => ∃ l2, (∀ p ∈ (C, oC) :: (own ++ (D, lst9 ys) :: l2), p ∈ l') ∧ (∀ p ∈ l2, p.1 ≠ C ∧ p.1 ≠ D) ∧ Apart own l2 ∧ lo l2 ∧ J (i + 1) (ys ++ [y]) l2) (J (i + 1) ys l1) ifs
theorem ev_comp (hclos : closureFor scope c.ev = pure cl) (hcell : ∀ y ∈ scope.names, y.2 ≠ .cell) (hkind : scope.kind = .function) (hnames : ∀ y ∈ scope.names, y.2 = .local → scope.names.lookup y.1 = some .local) (S : Src c m l iter target n lo Val) (hn : n < 1000000) (hJ : J 0 [] l) (hlo : lo l)
    (turn : CTurn c m scope cl target elt ifs n lo Val J) (hs : ∀ x, foldedSetIterable iter c.env x = pure x := by intro _; rfl) : Ev c m l (.ListComp elt [⟨target, iter, ifs, 0⟩] scope pos) (fun v l' => ∃ D ys l1, v = .ref D ∧ l' = (D, lst9 ys) :: l1 ∧ J n ys l1 ∧ ∀ p ∈ l1, p.1 ≠ D) := .mk fun h tk Q E H kk => by
  rw [eval_ListComp]
  refine wpAny_comprehension_free (use := none) rfl hs hclos hkind hnames (S.run h tk _ E H fun it own St h' tk' U h0 hA H' => comp_block hcell hkind U hn h0 hJ hlo hA turn H' ?_)
  intro D C h2 tk2 m' ys l1 hJ2 H2 offD hns hC0 hCL offC
  exact ⟨m', hns, fun h3 hs3 => kk _ _ h3 tk2 ⟨D, ys, l1, rfl, rfl, hJ2, offD⟩ ⟨H2.F.change hs3 hCL hC0, fun p hp => ⟨hs3.extBut _ _ (offC p hp) (H2.N p hp).1, (H2.N p hp).2⟩⟩⟩
theorem go_comp (W : c.Okf sc) (hclos : closureFor scope c.ev = pure cl) (hcell : ∀ y ∈ scope.names, y.2 ≠ .cell) (hkind : scope.kind = .function) (hnames : ∀ y ∈ scope.names, y.2 = .local → scope.names.lookup y.1 = some .local) (S : Src c m l iter target n lo Val) (hn : n < 1000000) (hJ : J 0 [] l) (hlo : lo l)
    (turn : CTurn c m scope cl target elt ifs n lo Val J) (k : ∀ D ys l1, J n ys l1 → (∀ p ∈ l1, p.1 ≠ D) → Go c Q (upd m y (.ref D)) ((D, lst9 ys) :: l1) rest) (hl : sc.names.lookup y = some .local := by rfl)
    (hsw : swapsWith (.ListComp elt [⟨target, iter, ifs, 0⟩] scope pos) (some (.Name y py)) spos.line (envX y sc 0 0 .none []) = pure true := by rfl) (hs : ∀ x, foldedSetIterable iter c.env x = pure x := by intro _; rfl) : Go c Q m l (.Assign [.Name y py] (.ListComp elt [⟨target, iter, ifs, 0⟩] scope pos) spos :: rest) := .mk fun h tk E H => by
  have hsw' : swapsWith (.ListComp elt [⟨target, iter, ifs, 0⟩] scope pos) (some (.Name y py)) spos.line c.env = pure true := by
    rw [show c.env = _ from W.he]
    show swapsWith _ _ _ (envX c.cn c.cs c.L c.a c.ccd c.cl) = _
    rw [W.hs]; exact hsw
  refine wpAny_execs_cons ?_
  rw [exec_Assign_Name_used _ _ _ _ hsw']
  refine wpAny_bind (wpAny_standAt (wpAny_bind ?_))
  show wpAny _ c.A (do let _ ← comprehension (.ListComp elt [⟨target, iter, ifs, 0⟩] scope pos) scope c.env _ (newList []) false (eval iter c.env) (some (assign (.Name y py) c.env))) _ _ _
  refine wpAny_bind (wpAny_mono (wpAny_comprehension_free (use := some (assign (.Name y py) c.env)) (Q := fun _ s' => wpAny (model prog w) c.A (execs rest c.env) Q E s') rfl hs hclos hkind hnames
    (S.run h tk _ E H fun it own St h' tk' U h0 hA H' => comp_block hcell hkind U hn h0 hJ hlo hA turn H' ?_)) (fun _ s' hq => wpAny_pure (wpAny_pure hq)) fun _ _ e => e)
  intro D C h2 tk2 m' ys l1 hJ2 H2 offD hns hC0 hCL offC
  show wpAny _ c.A (assign (.Name y py) c.env (.ref D)) _ _ _
  have g9 := (k D ys l1 hJ2 offD).run
  rw [show c.env = _ from W.he] at g9 ⊢
  refine PyProof.Rows.assign_Name (wpAny_storeName_local (kind_sc W hl) H2.F.ns (fun h3 hn3 hs3 => ?_) (by simp [W.hs, W.hk]))
  have hL0 : c.h₀.get? c.L = none := Heap.get?_none_of_le H2.F.above
  have F3 : Fr c.h₀ c.L h3 (upd m y (.ref D)) := ⟨hn3, fun b o e => hs3.extBut b o (fun q => by rw [q] at e; exact absurd (e.symm.trans hL0) (by simp)) (H2.F.keep b o e), H2.F.above⟩
  refine ⟨m', hns.sameBut hs3 hCL, fun h4 hs4 => g9 h4 _ E ⟨F3.change hs4 hCL hC0, fun p hp => ?_⟩⟩
  have z : h3.get? p.1 = some p.2 := hs3.extBut _ _ (H2.N p hp).2.1 (H2.N p hp).1
  exact ⟨hs4.extBut _ _ (offC p hp) z, (H2.N p hp).2⟩
end
theorem fact_int : bootBuiltins (Str.ofString "int") = some (.type "int") := by boot_fast
theorem fact_int0 : ∀ P, nsIn (Mine.K P) mainGlobals (Str.ofString "int") = some none := fun P => by k_is
theorem fact_max : bootBuiltins (Str.ofString "max") = some (.builtin "max") := by boot_fast
theorem fact_max0 : ∀ P, nsIn (Mine.K P) mainGlobals (Str.ofString "max") = some none := fun P => by k_is
section
variable {prog : Program} {w : World} {c : Wc prog w} {sc : Scope} {m : Nm} {l l' : Led} {e e1 e2 target : Expr} {R R1 R2 : Value → Prop} {pos pos' np tp p1 p2 p3 p4 : Pos} {x y : Str} {v : Value} {D : Addr} {k1 k2 k3 k4 k9 kk9 : Nat} {a b : Int} {vs items : List Value} {n : Nat} {P : Value → Led → Prop} {rest body : List Stmt} {Q : Flow → Shared → Prop} {o : Obj}
theorem ev_dict0 (X : c.Ok sc) : Ev c m l (.Dict [] [] pos) (fun v l' => ∃ d o, v = .ref d ∧ l' = (d, o) :: l ∧ AllLt d l ∧ (d == sysModules) = false ∧ o.IsDictOf (PySem.intKind prog w) [] ∧ o.IsDictOf (PySem.strKind prog w) []) := .mk fun h tk Q E H k =>
  newDict_K H.F H.N X.T.nolimit fun d h' o F' N' hd lo hs _ hi _ => k _ _ h' _ ⟨d, o, rfl, rfl, allLt_iff.mpr hd, lo, hi, hs⟩ ⟨F', N'⟩
theorem ev_dict2 {x1 y1 x2 y2 : Str} (X : c.Ok sc) (hx : x1 ≠ x2) : Ev c m l (.Dict [some (.Constant (.str x1) k1 p1), some (.Constant (.str x2) k2 p2)] [.Constant (.str y1) k3 p3, .Constant (.str y2) k4 p4] pos) (fun v l' => ∃ d o t1 t2, v = .ref d ∧ l' = (d, o) :: l ∧ AllLt d l ∧ (d == sysModules) = false ∧ o.IsDictOf (PySem.strKind prog w) [(x1, .str y1 t1), (x2, .str y2 t2)]) := .mk fun h tk Q E H k => by
  refine kdn_str (by rfl) H.F H.N X.T.nolimit (by rfl) (by rfl) (List.cons_ne_nil _ _) (Nat.le_of_ble_eq_true rfl) fun d h' o F' N' hd lo hs => ?_
  refine evalPairs_cons (PySem.Calls.Constant_str ?_)
  refine wpAny_bind (PySem.Calls.Constant_str (wpAny_bind (wpAny_standAt (wpAny_pure ?_))))
  refine evalPairs_cons (PySem.Calls.Constant_str ?_)
  refine wpAny_bind (PySem.Calls.Constant_str (wpAny_bind (wpAny_standAt (wpAny_pure ?_))))
  refine evalPairs_nil ?_
  exact kdn_made_str F' N' (.head fun p hp => Nat.ne_of_lt (hd p hp)) hs rfl (by simp [strPairs, hx]) fun h2 o2 F2 N2 hd2 => k _ _ h2 _ ⟨d, o2, _, _, rfl, rfl, allLt_iff.mpr hd, lo, hd2⟩ ⟨F2, N2⟩
theorem ts_inS {kvs : List (Str × Value)} (h1 : Pu c m l e1 (StV x)) (h2 : Pu c m l e2 (Eqv (.ref D))) (hm : (D, o) ∈ l) (hd : o.IsDictOf (PySem.strKind prog w) kvs) (lo : (D == sysModules) = false) (hb : behindInMarks .In e2 = false := by rfl) : Ts c m l (.Compare e1 [.In] [e2] pos) (valueAt kvs x).isSome :=
  ts_cmp h1 h2 (fun r1 r2 H q => by obtain ⟨_, rfl⟩ := r1; cases r2; exact kda_in (knd := PySem.strKind _ _) H.N hm hd lo (strKind_is _ _ _ _) _ rfl (q _)) hb
theorem ps_item {t9 : Tok} (hm : (D, lstO vs n) ∈ l) (h0 : 0 ≤ a) (hx : vs[a.toNat]? = some (.str x t9)) (hk : a < 1000000) (ho : Pu c m l e1 (Eqv (.ref D))) (hi : Pu c m l e2 (IntV a)) (hs : ∀ t, subscripted e2 false (.ref D) (.int a t) = operate [.ref D, .int a t] (getItem (.ref D) (.int a t)) := by intro _; with_unfolding_all rfl) :
    Pu c m l (.Subscript e1 e2 pos') (StV x) := (pu_item hm h0 hx hk ho hi hs).mono fun _ _ q => ⟨⟨_, q.1⟩, q.2⟩
theorem ps_name {t9 : Tok} (W : c.Okf sc) (hm : m x = some (.str y t9)) (hl : sc.names.lookup x = some .local := by rfl) (hx : (x == ("__debug__" : Str)) = false := by decide) : Pu c m l (.Name x pos) (StV y) := (pu_name W hm hl hx).mono fun _ _ q => ⟨⟨_, q.1⟩, q.2⟩
theorem pu_dictS {kvs : List (Str × Value)} (ho : Pu c m l e1 (Eqv (.ref D))) (hi : Pu c m l e2 (StV x)) (hm : (D, o) ∈ l) (hd : o.IsDictOf (PySem.strKind prog w) kvs) (hv : valueAt kvs x = some v) (hs : ∀ t, subscripted e2 false (.ref D) (.str x t) = operate [.ref D, .str x t] (getItem (.ref D) (.str x t)) := by intro _; with_unfolding_all rfl) : Pu c m l (.Subscript e1 e2 pos) (Eqv v) := .mk fun h tk Q E H k => by
  refine Subscript_ (ho.run h tk _ E H ?_)
  rintro _ _ h' tk' ⟨rfl, rfl⟩ H'
  refine hi.run h' tk' _ E H' ?_
  rintro _ _ h2 tk2 ⟨⟨t, rfl⟩, rfl⟩ H2
  exact kba_turn (value' := .Name x pos) (fun _ => rfl) (kda_item (knd := PySem.strKind _ _) H2.N hm hd (strKind_is _ _ _ _) hv (k _ _ _ _ ⟨rfl, rfl⟩ H2) (hs t) (fun _ => rfl))
theorem ps_dictS {kvs : List (Str × Value)} {t9 : Tok} (ho : Pu c m l e1 (Eqv (.ref D))) (hi : Pu c m l e2 (StV x)) (hm : (D, o) ∈ l) (hd : o.IsDictOf (PySem.strKind prog w) kvs) (hv : valueAt kvs x = some (.str y t9)) (hs : ∀ t, subscripted e2 false (.ref D) (.str x t) = operate [.ref D, .str x t] (getItem (.ref D) (.str x t)) := by intro _; with_unfolding_all rfl) : Pu c m l (.Subscript e1 e2 pos) (StV y) := (pu_dictS ho hi hm hd hv hs).mono fun _ _ q => ⟨⟨_, q.1⟩, q.2⟩
theorem pu_dictI {kvs : List (Int × Value)} (ho : Pu c m l e1 (Eqv (.ref D))) (hi : Pu c m l e2 (IntV a)) (hm : (D, o) ∈ l) (hd : o.IsDictOf (PySem.intKind prog w) kvs) (hv : valueAt kvs a = some v) (hs : ∀ t, subscripted e2 false (.ref D) (.int a t) = operate [.ref D, .int a t] (getItem (.ref D) (.int a t)) := by intro _; with_unfolding_all rfl) : Pu c m l (.Subscript e1 e2 pos) (Eqv v) := .mk fun h tk Q E H k => by
  refine Subscript_ (ho.run h tk _ E H ?_)
  rintro _ _ h' tk' ⟨rfl, rfl⟩ H'
  refine hi.run h' tk' _ E H' ?_
  rintro _ _ h2 tk2 ⟨⟨t, rfl⟩, rfl⟩ H2
  exact kba_turn (value' := .Name (Str.ofString "x") pos) (fun _ => rfl) (kda_item (knd := PySem.intKind _ _) H2.N hm hd (intKind_is _ _ _ _) hv (k _ _ _ _ ⟨rfl, rfl⟩ H2) (hs t) (fun _ => rfl))
theorem pu_intb {bb : Bool} (W : c.Okf sc) (h : Pu c m l e (Eqv (.bool bb))) (hl : sc.names.lookup (Str.ofString "int") = some .globalImplicit := by rfl) (hs : starEach [e] c.env = [(false, eval e c.env)] := by rfl) : Pu c m l (.Call (.Name (Str.ofString "int") np) [e] [] pos) (IntV (if bb then 1 else 0)) := .mk fun h0 tk Q E H k => by
  refine PyProof.Rows.Call_ ((pu_bname W fact_int0 fact_int hl (by decide) (by decide)).run h0 tk _ E H ?_)
  rintro _ _ h1 tk1 ⟨rfl, rfl⟩ H1
  refine PyProof.Rows.callWith_type1 (PyProof.Rows.args_cons (h.run h1 tk1 _ E H1 ?_) hs) hs rfl
  rintro _ _ h' tk' ⟨rfl, rfl⟩ H'
  exact PyProof.Rows.args_nil (call_int_bool (k _ _ _ _ ⟨⟨_, rfl⟩, rfl⟩ H'))
theorem pu_max (W : c.Okf sc) (h : Pu c m l e1 (IntV a)) (h2 : Pu c m l e2 (IntV b)) (hl : sc.names.lookup (Str.ofString "max") = some .globalImplicit := by rfl) (hs : starEach [e1, e2] c.env = (false, eval e1 c.env) :: starEach [e2] c.env := by rfl) (hs2 : starEach [e2] c.env = [(false, eval e2 c.env)] := by rfl) : Pu c m l (.Call (.Name (Str.ofString "max") np) [e1, e2] [] pos) (IntV (if b > a then b else a)) := .mk fun h0 tk Q E H k => by
  refine PyProof.Rows.Call_ ((pu_bname W fact_max0 fact_max hl (by decide) (by decide)).run h0 tk _ E H ?_)
  rintro _ _ h1 tk1 ⟨rfl, rfl⟩ H1
  refine PyProof.Rows.callWith_builtin1 (PyProof.Rows.args_cons (h.run h1 tk1 _ E H1 ?_) hs) hs (by rw [hs2]; rfl)
  rintro _ _ h' tk' ⟨⟨t, rfl⟩, rfl⟩ H'
  refine PyProof.Rows.args_cons (h2.run h' tk' _ E H' ?_) hs2
  rintro _ _ h3 tk3 ⟨⟨t3, rfl⟩, rfl⟩ H3
  exact PyProof.Rows.args_nil (max_two_N rfl H3.F H3.N fun h4 tk4 F4 N4 => k _ _ h4 tk4 ⟨⟨_, rfl⟩, rfl⟩ ⟨F4, N4⟩)
theorem go_setDP {P9 : Value → Led → Prop} (he : Ev c m l e P9) (k : ∀ v l', P9 v l' → ∃ D o kvs g, Pu c m l' e1 (Eqv (.ref D)) ∧ Pu c m l' e2 (IntV a) ∧ o.IsDictOf (PySem.intKind prog w) kvs ∧ kvs.length < 1000000 ∧ UpdF D o l' g ∧ ∀ o', o'.IsDictOf (PySem.intKind prog w) (stored kvs a v) → Go c Q m (g o') rest)
    (hs : swapsWith e (some (.Subscript e1 e2 pos')) pos.line c.env = pure false := by rfl) : Go c Q m l (.Assign [.Subscript e1 e2 pos'] e pos :: rest) := .mk fun h9 tk E H => by
  refine wpAny_execs_cons (wpAny_Assign_Subscript (he.run h9 tk _ E H ?_) hs)
  intro v l' h' tk' p H'
  obtain ⟨D, o, kvs, g, ho, hi, hd, hz, hU, k⟩ := k v l' p
  refine ho.run h' tk' _ E H' ?_
  rintro _ _ h2 tk2 ⟨rfl, rfl⟩ H2
  refine hi.run h2 tk2 _ E H2 ?_
  rintro _ _ h3 tk3 ⟨⟨t, rfl⟩, rfl⟩ H3
  exact kda_set (knd := PySem.intKind _ _) H3.F H3.N hU hd (intKind_is _ _ _ _) (by rw [sizeLine_eq]; omega) fun h4 o' F4 N4 d4 => (k o' d4).run h4 _ E ⟨F4, N4⟩
theorem as_sub {o1 i1 : Expr} {kvs : List (Int × Value)} {g : Obj → Led} {h0 : Heap} {tk0 : Tok} {Q9 : Unit → Shared → Prop} {E : Value → Shared → Prop} (H : At c m l h0) (ho : Pu c m l o1 (Eqv (.ref D))) (hi : Pu c m l i1 (IntV a)) (hd : o.IsDictOf (PySem.intKind prog w) kvs) (hz : kvs.length < 1000000) (hU : UpdF D o l g)
    (k : ∀ o' h' tk', o'.IsDictOf (PySem.intKind prog w) (stored kvs a v) → At c m (g o') h' → Q9 () (c.st h' tk')) : wpAny (model prog w) c.A (assign (.Subscript o1 i1 pos) c.env v) Q9 E (c.st h0 tk0) := by
  rw [arm_assign_Subscript]
  refine wpAny_bind (wpAny_holding (ho.run h0 tk0 _ E H ?_))
  rintro _ _ h2 tk2 ⟨rfl, rfl⟩ H2
  refine wpAny_bind (wpAny_holding (hi.run h2 tk2 _ E H2 ?_))
  rintro _ _ h3 tk3 ⟨⟨t, rfl⟩, rfl⟩ H3
  refine wpAny_bind (wpAny_standAt (wpAny_bind (wpAny_holding ?_)))
  exact kda_set (knd := PySem.intKind _ _) H3.F H3.N hU hd (intKind_is _ _ _ _) (by rw [sizeLine_eq]; omega) fun h4 o' F4 N4 d4 => wpAny_release' (k o' h4 _ d4 ⟨F4, N4⟩)
theorem go_set2 {o1 i1 o2 i2 : Expr} {q1 q2 : Pos} {kvs : List (Int × Value)} (W : c.Okf sc) (h1 : Pu c m l e1 R1) (h2 : Pu c m l e2 R2) (k : ∀ T v1 v2, AllLt T l → R1 v1 → R2 v2 → ∃ g, Pu c m ((T, tupO [v1, v2]) :: l) o1 (Eqv (.ref D)) ∧ Pu c m ((T, tupO [v1, v2]) :: l) i1 (IntV a) ∧ o.IsDictOf (PySem.intKind prog w) kvs ∧ kvs.length + 1 < 1000000 ∧ UpdF D o ((T, tupO [v1, v2]) :: l) g ∧
      ∀ o', o'.IsDictOf (PySem.intKind prog w) (stored kvs a v1) → ∃ g2, Pu c m (g o') o2 (Eqv (.ref D)) ∧ Pu c m (g o') i2 (IntV b) ∧ UpdF D o' (g o') g2 ∧ ∀ o2', o2'.IsDictOf (PySem.intKind prog w) (stored (stored kvs a v1) b v2) → Go c Q m (g2 o2') rest)
    (ha : starEach [e1, e2] c.env = (false, eval e1 c.env) :: starEach [e2] c.env := by rfl) (hb : starEach [e2] c.env = [(false, eval e2 c.env)] := by rfl) (hs1 : swapsWithSole [.Tuple [.Subscript o1 i1 q1, .Subscript o2 i2 q2] k9 tp] (.Tuple [e1, e2] kk9 pos') pos.line c.env = pure false := by rfl)
    (hs2 : swappedStores [.Tuple [.Subscript o1 i1 q1, .Subscript o2 i2 q2] k9 tp] (.Tuple [e1, e2] kk9 pos') (envX (Str.ofString "x") sc 0 0 .none []) = pure none := by rfl) : Go c Q m l (.Assign [.Tuple [.Subscript o1 i1 q1, .Subscript o2 i2 q2] k9 tp] (.Tuple [e1, e2] kk9 pos') pos :: rest) := .mk fun h0 tk E H => by
  have hs2 : swappedStores [.Tuple [.Subscript o1 i1 q1, .Subscript o2 i2 q2] k9 tp] (.Tuple [e1, e2] kk9 pos') c.env = pure none := by
    rw [show c.env = _ from W.he, W.hs]
    exact hs2
  refine wpAny_execs_cons (PyProof.Rows.Assign_Tuple (Tuple_ (PyProof.Rows.args_cons (h1.run h0 tk _ E H ?_) ha)) hs1 hs2)
  rintro v1 _ h' tk' ⟨r1, rfl⟩ H1
  refine PyProof.Rows.args_cons (h2.run h' tk' _ E H1 ?_) hb
  rintro v2 _ h2 tk2 ⟨r2, rfl⟩ H2
  refine PyProof.Rows.args_nil (kup_newTuple H2.F H2.N (fun T h3 F3 N3 hD => ?_) (Nat.le_of_ble_eq_true rfl))
  refine unpackN_ (items := #[v1, v2]) F3 N3 ⟨_, (N3 _ (.head _)).1, rfl, 0, rfl⟩ rfl rfl rfl fun h4 F4 N4 => ?_
  obtain ⟨g, ho, hi, hd, hz, hU, k⟩ := k T v1 v2 (allLt_iff.mpr hD) r1 r2
  refine assignInOrder_cons (as_sub ⟨F4, N4⟩ ho hi hd (by omega) hU fun o' h5 tk5 hd5 H5 => ?_)
  obtain ⟨g2, ho2, hi2, hU2, k⟩ := k o' hd5
  exact assignInOrder_cons (as_sub H5 ho2 hi2 hd5 (by have := stored_le kvs a v1; omega) hU2 fun o2' h6 tk6 hd6 H6 => assignInOrder_nil ((k o2' hd6).run h6 tk6 E H6))
theorem go_join {orelse : List Stmt} {bb : Bool} (Mid : Nm → Led → Prop) (ht : Ts c m l e bb) (k1 : bb = true → ∀ Q', (∀ m l, Mid m l → End c Q' m l .next) → Go c Q' m l body) (k0 : bb = false → ∀ Q', (∀ m l, Mid m l → End c Q' m l .next) → Go c Q' m l orelse) (k : ∀ m l, Mid m l → Go c Q m l rest) : Go c Q m l (.If e body orelse pos :: rest) := by
  cases bb with
  | true => exact go_if_t ht fun Q' C => k1 rfl Q' fun m l h => C.nx m l (k m l h)
  | false => exact go_if_f ht fun Q' C => k0 rfl Q' fun m l h => C.nx m l (k m l h)
theorem go_forE {li : Addr} {elts : List Expr} {x1 : Nat} {tpos : Pos} (W : c.Okf sc) (J : Nat → List Value → Nm → Led → Prop) (hi : Pu c m l e (Eqv (.ref li))) (hm : (li, lstO items k9) ∈ l) (h0 : J 0 items m l) (hmem : ∀ i r m1 l1, J i r m1 l1 → (li, lstO items k9) ∈ l1)
    (turn : ∀ i v r m1 l1 T tv e9 oe it9 oi Q', J i (v :: r) m1 l1 → (∀ p ∈ l1, p.1 ≠ e9) → (∀ p ∈ l1, p.1 ≠ it9) → AllLt T ((e9, oe) :: (it9, oi) :: l1) → Turn c Q Q' [(e9, oe), (it9, oi)] (J (i + 1) r) → GoT c Q' m1 ((T, tupO [.int (i : Int) tv, v]) :: (e9, oe) :: (it9, oi) :: l1) (.Tuple elts x1 tpos) (.ref T) body)
    (done : ∀ m1 l1, J items.length [] m1 l1 → Go c Q m1 l1 rest) (hl : sc.names.lookup (Str.ofString "enumerate") = some .globalImplicit := by rfl) (hs : starEach [e] c.env = [(false, eval e c.env)] := by rfl) (hf : ∀ x, foldedSetIterable (.Call (.Name (Str.ofString "enumerate") np) [e] [] pos') c.env x = pure x := by intro _; rfl) :
    Go c Q m l (.For (.Tuple elts x1 tpos) (.Call (.Name (Str.ofString "enumerate") np) [e] [] pos') body [] pos :: rest) := .mk fun h9 tk E H => by
  refine wpAny_execs_cons (for_hold (PyProof.Rows.Call_ ((pu_bname W fact_enum0 fact_enum hl (by decide) (by decide)).run h9 tk _ E H ?_)) hf)
  rintro _ _ h1 tk1 ⟨rfl, rfl⟩ H1
  refine PyProof.Rows.callWith_type1 (PyProof.Rows.args_cons (hi.run h1 tk1 _ E H1 ?_) hs) hs rfl
  rintro _ _ h' tk' ⟨rfl, rfl⟩ H'
  refine PyProof.Rows.args_nil (enum_new H'.F H'.N hm fun e9 it9 io h2 hio hei F2 N2 le li9 => ?_)
  exact Hold.mk (loop_enum (s := c.st h2 tk') (Q := Aft c Q E rest) J rfl (env_L W ▸ F2) (env_L W ▸ N2) rfl hio hei (fun p hp => Nat.ne_of_lt (allLt_iff.mp le p hp)) (fun p hp => Nat.ne_of_lt (allLt_iff.mp li9 p hp)) rfl h0 hmem
    (fun i v r m1 l1 T tv oe oi h tk hJ oe9 oi9 hT F1 N1 => (turn i v r m1 l1 T tv e9 oe it9 oi _ hJ oe9 oi9 hT (turn_is W)).run h tk _ ⟨env_L W ▸ F1, env_L W ▸ N1⟩) fun h tk m1 l1 hJ F1 N1 => (done m1 l1 hJ).run h tk E ⟨env_L W ▸ F1, env_L W ▸ N1⟩)
end
section
variable {prog : Program} {w : World} {c : Wc prog w} {sc : Scope} {m : Nm} {l l' : Led} {e e1 : Expr} {pos pos' np : Pos} {x y : Str} {v : Value} {P : Value → Led → Prop} {rest body : List Stmt} {Q : Flow → Shared → Prop}
theorem under_call {a9 : Args} : c.A.under (.builtin "type.__call__" a9) = ktrTop (c.dp + (Code.builtin "type.__call__" a9).weight) (c.un + (Code.builtin "type.__call__" a9).cUnits) (pushGuards (Code.builtin "type.__call__" a9).guards c.gd) c.cn c.cs c.L c.a c.ccd c.cl c.outer := by
  have h : (Code.builtin "type.__call__" a9).envs = [] := rfl
  unfold Around.under
  rw [h]
  rfl
theorem tr_cls {C fI : Addr} {name qual : Str} {params : Arguments} {scope : Scope} {dV kV doc pm cdv ct oc : Value} {an od : Option Addr} {osl : Array (Option Value)} {self : Str} (W : c.Ok sc)
    (hm : makesIn (Mine.K w.params) C = true) (hi : findIn (Mine.K w.params) (.ref C) (Str.ofString "__init__") = some (some (.ref fI))) (hf : isFn (Mine.K w.params) (.ref fI) = true)
    (ho : List.lookup fI (Mine.K w.params) = some ⟨oc, od, .func (fnOf name qual params body scope dV kV doc pm an cdv ct), osl⟩) (hcd : codeIn (Mine.K w.params) cdv qual = true) (hroom : c.dp + 2 < recursionLimit) (hwt : (Code.builtin "type.__call__" ⟨[.ref C], []⟩).weight ≤ 1)
    (hb : ∀ x, bindArgs (fnOf name qual params body scope dV kV doc pm an cdv ct) ⟨[.ref x], []⟩ = pure [(self, .ref x)]) (hloc : scope.names.lookup self = some .local) (hco : scope.isCoroutine = false) (hgen : scope.isGenerator = false) (hk : scope.kind = .function)
    (hcell : ∀ x ∈ scope.names, x.2 ≠ .cell)
    (h : ∀ (c' : Wc prog w) Q x dx, c'.Okf scope → AllLt dx l → dx < x → (∀ m' l', P (.ref x) l' → End c' Q m' l' .next) → Go c' Q (fun y => [(self, .ref x)].reverse.lookup y) ((x, instObj C dx) :: (dx, dictOf [] 0) :: l) body) :
    Tr c m l (call (.ref C) []) P := .mk fun h0 tk Q E H kk => by
  refine call_cls H.F W.X H.N hm hi hf fun x dx h1 F1 N1 hd hx => ?_
  have hw9 := hwt
  refine code_def (binds := [(self, .ref x)]) (env := envX c.cn c.cs c.L c.a c.ccd c.cl) (outer := c.outer) W.B F1 W.X N1 W.T (by rw [under_call]) rfl (by show c.cs.kind = _; rw [W.hs]; exact W.hk) ho hcd (by rw [under_call]; show c.dp + _ < _; omega) (BindsTo.of_eq (hb x)) (fun y hy => by rw [List.mem_singleton.mp hy]; exact hloc) (fun g L' h2 FG F' N' B' X' T' => ?_) hco hgen hk hcell
  rw [under_call] at B' ⊢
  let c' : Wc prog w := ⟨c.p, c.loose, c.mean, c.mg, c.mb, c.dp + (Code.builtin "type.__call__" ⟨[.ref C], []⟩).weight + 1, c.un + (Code.builtin "type.__call__" ⟨[.ref C], []⟩).cUnits + 3, pushGuards (Code.builtin "type.__call__" ⟨[.ref C], []⟩).guards c.gd, qual, scope, L', fI, cdv, [], envX c.cn c.cs c.L c.a c.ccd c.cl :: c.outer, ktrTop (c.dp + (Code.builtin "type.__call__" ⟨[.ref C], []⟩).weight) (c.un + (Code.builtin "type.__call__" ⟨[.ref C], []⟩).cUnits) (pushGuards (Code.builtin "type.__call__" ⟨[.ref C], []⟩).guards c.gd) c.cn c.cs c.L c.a c.ccd c.cl c.outer, c.base, g, c.st h2 (tk + 1), envOf qual scope L' fI cdv⟩
  exact (h c' _ x dx ⟨⟨B', X', T', rfl, hk⟩, rfl⟩ (allLt_iff.mpr hd) hx (fun m' l' p => .mk fun h3 tk3 H3 => leaveK_ H3.F H3.N fun F4 N4 => ⟨rfl, kk _ _ _ _ p ⟨F4, N4⟩⟩)).run h2 _ _ ⟨F', N'⟩
theorem go_setA {P9 : Value → Led → Prop} {C ox dx : Addr} {attr : Str} (W : c.Okf sc) (he : Ev c m l e P9) (ho : m x = some (.ref ox)) (hs : ∀ P, findIn (Mine.K P) (.ref C) (Str.ofString "__setattr__") = some (some (.builtin "object.__setattr__"))) (hp : ∀ P, plainOver (Mine.K P) C = true) (ht : ∀ P, takerIn (Mine.K P) C attr = some none) (hh : ∀ P, hasDictIn (Mine.K P) C = true)
    (k : ∀ v l', P9 v l' → ∃ es n, ∃ l9 : Tok → Led, (ox, instObj C dx) ∈ l' ∧ (dx, dictOf es n) ∈ l' ∧ (getL attr es).isSome = true ∧ es.length < 900 ∧ ∀ tk, ∃ es' n', (putL attr (PyData.keyHash w.params attr) (.str attr tk) v es, putN attr es n) = (es', n') ∧ es'.length ≤ 1000 ∧ Upd dx (dictOf es n) (dictOf es' n') l' (l9 tk) ∧ Go c Q m (l9 tk) rest)
    (hl : sc.names.lookup x = some .local := by rfl) (hx : (x == ("__debug__" : Str)) = false := by decide) (hsw : swapsWith e (some (.Attribute (.Name x np) attr pos')) pos.line c.env = pure false := by rfl) : Go c Q m l (.Assign [.Attribute (.Name x np) attr pos'] e pos :: rest) := .mk fun h0 tk E H => by
  refine wpAny_execs_cons (plainObj_wpAny_Assign_Attribute (he.run h0 tk _ E H ?_) hsw)
  intro v l' h' tk' p H'
  refine (pu_name W ho hl hx).run h' tk' _ E H' ?_
  rintro _ _ h2 tk2 ⟨rfl, rfl⟩ H2
  obtain ⟨es, n, l9, hm1, hm2, hg, _, k⟩ := k v _ p
  obtain ⟨es', n', e9, hz, hU, g⟩ := k (tk2 + 1)
  exact set_dict H2.F W.X H2.N (InstAt.of_news H2.N hm1 hm2) rfl (hs _) (hp _) (ht _) (hh _) hg e9 hU hz fun h3 F3 N3 => g.run h3 _ E ⟨F3, N3⟩
theorem ev_call0' {f : Addr} (W : c.Ok sc) (hn : Pu c m l (.Name x np) (Eqv (.ref f))) (hk : ∀ P, keepIn (Mine.K P) (.ref f) = true) (hc : Tr c m l (call (.ref f) []) P) : Ev c m l (.Call (.Name x np) [] [] pos) P := .mk fun h0 tk Q E H kk => by
  refine PyProof.Rows.Call_ (hn.run h0 tk _ E H ?_)
  rintro _ _ h1 tk1 ⟨rfl, rfl⟩ H1
  exact callWith_K0 (W.X.keeps H1.F.keep) (hk _) (hc.run h1 tk1 Q E H1 kk)
end
section
variable {prog : Program} {w : World} {c : Wc prog w} {sc : Scope} {m : Nm} {l l' : Led} {e e1 e2 : Expr} {pos pos' np p1 p2 tp : Pos} {x y : Str} {v : Value} {k9 kk9 : Nat} {P : Value → Led → Prop} {rest body : List Stmt} {Q : Flow → Shared → Prop} {ca D : Addr} {o : Obj} {g : Obj → Led} {v0 : Option Value}
theorem pu_cell (W : c.Okf sc) (hc : c.cl.lookup x = some ca) (hm : (ca, o) ∈ l) (ho : o.data = .cell (some v)) (hl : sc.names.lookup x = some .cell := by rfl) (hx : (x == ("__debug__" : Str)) = false := by decide) : Pu c m l (.Name x pos) (Eqv v) := .mk fun h tk Q E H k => by
  show wpAny _ _ (eval (.Name x pos) c.ev) _ _ _
  rw [W.he]
  exact nameX_C H.N hc hm ho (k _ _ _ _ ⟨rfl, rfl⟩ H) (kind_fn W) (kind_sc W hl) hx
theorem pu_free (W : c.Okf sc) (hc : c.cl.lookup x = some ca) (hm : (ca, o) ∈ l) (ho : o.data = .cell (some v)) (hl : sc.names.lookup x = some .free := by rfl) (hx : (x == ("__debug__" : Str)) = false := by decide) (hn : (x == ("__classdict__" : Str)) = false := by decide) : Pu c m l (.Name x pos) (Eqv v) := .mk fun h tk Q E H k => by
  show wpAny _ _ (eval (.Name x pos) c.ev) _ _ _
  rw [W.he]
  exact nameX_F H.N hc hm ho (k _ _ _ _ ⟨rfl, rfl⟩ H) (kind_fn W) (kind_sc W hl) hx hn
theorem storeC {h0 : Heap} {tk : Tok} {E : Value → Shared → Prop} {Q9 : Unit → Shared → Prop} (W : c.Okf sc) (hc : c.cl.lookup x = some ca) (U : UpdF ca o l g) (ho : o.data = .cell v0) (hl : sc.names.lookup x = some .cell) (H : At c m l h0) (k : ∀ o' h' tk', o'.data = .cell (some v) → At c m (g o') h' → Q9 () (c.st h' tk')) :
    wpAny (model prog w) c.A (storeName c.env x v) Q9 E (c.st h0 tk) := by
  show wpAny _ _ (storeName c.ev x v) _ _ _
  rw [W.he]
  exact storeX_C H.F H.N hc U ho (fun h' o' F' N' hd => k o' h' _ hd ⟨F', N'⟩) (kind_fn W) (kind_sc W hl)
theorem storeL {h0 : Heap} {tk : Tok} {E : Value → Shared → Prop} {Q9 : Unit → Shared → Prop} (W : c.Okf sc) (hl : sc.names.lookup x = some .local) (H : At c m l h0) (k : ∀ h' tk', At c (upd m x v) l h' → Q9 () (c.st h' tk')) :
    wpAny (model prog w) c.A (storeName c.env x v) Q9 E (c.st h0 tk) := by
  show wpAny _ _ (storeName c.ev x v) _ _ _
  rw [W.he]
  exact storeX_L H.F H.N (fun h' F' N' => k h' _ ⟨F', N'⟩) (kind_fn W) (kind_sc W hl)
theorem go_assignC (W : c.Okf sc) (h : Ev c m l e P) (k : ∀ v l', P v l' → ∃ ca o v0 g, c.cl.lookup x = some ca ∧ UpdF ca o l' g ∧ o.data = .cell v0 ∧ ∀ o', o'.data = .cell (some v) → Go c Q m (g o') rest) (hl : sc.names.lookup x = some .cell := by rfl)
    (hs : swapsWith e (some (.Name x pos')) pos.line (envX x sc 0 0 .none []) = pure false := by rfl) : Go c Q m l (.Assign [.Name x pos'] e pos :: rest) := .mk fun h0 tk E H => by
  have hs' : swapsWith e (some (.Name x pos')) pos.line c.env = pure false := by
    rw [show c.env = _ from W.he]
    show swapsWith _ _ _ (envX c.cn c.cs c.L c.a c.ccd c.cl) = _
    rw [W.hs]; exact hs
  refine wpAny_execs_cons (wpAny_Assign_Name (h.run h0 tk _ E H fun v l' h' tk' p H' => ?_) hs')
  obtain ⟨ca, o, v0, g, hc, U, ho, k⟩ := k v l' p
  exact storeC W hc U ho hl H' fun o' h2 tk2 ho' H2 => (k o' ho').run h2 tk2 E H2
theorem gt_pairC {v1 v2 : Value} (W : c.Okf sc) (hm : (D, tupO [v1, v2]) ∈ l) (hc : c.cl.lookup x = some ca) (U : UpdF ca o l g) (ho : o.data = .cell v0) (k : ∀ o', o'.data = .cell (some v1) → Go c Q (upd m y v2) (g o') body) (hl : sc.names.lookup x = some .cell := by rfl) (hl2 : sc.names.lookup y = some .local := by rfl) :
    GoT c Q m l (.Tuple [.Name x p1, .Name y p2] k9 tp) (.ref D) body := .mk fun h0 tk E H => by
  refine unpackN_ (items := #[v1, v2]) H.F H.N ⟨_, (H.N _ hm).1, rfl, 0, rfl⟩ rfl rfl rfl fun h' F' N' => ?_
  exact assignInOrder_cons (PyProof.Rows.assign_Name (storeC W hc U ho hl ⟨F', N'⟩ fun o' h2 tk2 ho' H2 => assignInOrder_cons (PyProof.Rows.assign_Name (storeL W hl2 H2 fun h3 tk3 H3 => assignInOrder_nil ((k o' ho').run h3 tk3 E H3)))))
theorem go_two (W : c.Okf sc) (h : Ev c m l e P) (k : ∀ v l', P v l' → ∃ D, v = .ref D ∧ GoT c Q m l' (.Tuple [.Name x p1, .Name y p2] k9 tp) (.ref D) rest)
    (hs1 : swapsWithSole [.Tuple [.Name x p1, .Name y p2] k9 tp] e pos.line c.env = pure false := by rfl) (hs2 : swappedStores [.Tuple [.Name x p1, .Name y p2] k9 tp] e c.env = pure none := by rfl) : Go c Q m l (.Assign [.Tuple [.Name x p1, .Name y p2] k9 tp] e pos :: rest) := .mk fun h0 tk E H => by
  refine wpAny_execs_cons (PyProof.Rows.Assign_Tuple (h.run h0 tk _ E H fun v l' h' tk' p H' => ?_) hs1 hs2)
  obtain ⟨D, rfl, k⟩ := k v l' p
  exact k.run h' tk' E H'
end
structure EvX {prog : Program} {w : World} {α : Type} (c : Wc prog w) (m : Nm) (l : Led) (t : Sem α) (code : Str) : Prop where
  run : ∀ h tk (Q : α → Shared → Prop) (E : Value → Shared → Prop), At c m l h → (∀ e d t od tc h' tk' mA, Flies c.h₀ c.L m (envX c.cn c.cs c.L c.a c.ccd c.cl) c.outer l e d t od h' → NsObj od mA → mA (Str.ofString "code") = some (.str code tc) → E (.ref e) (c.st h' tk')) → wpAny (model prog w) c.A t Q E (c.st h tk)
section
variable {prog : Program} {w : World} {c : Wc prog w} {sc : Scope} {m : Nm} {l l' : Led} {e : Expr} {pos np : Pos} {x : Str} {code : Str} {P : Value → Led → Prop} {body : Expr}
  {name qual : Str} {params : Arguments} {scope : Scope} {cl : List (Str × Addr)} {pm ctv : Value} {c9 f : Addr} {oc : Obj} {vs : Array Value} {t9 : Tok}
theorem keeps_fn {h : Heap} {a : Addr} {o : Obj} {fd : FuncData} (ho : h.get? a = some o) (hd : o.data = .func fd) : ∃ k, (k = Keeper.frame ∨ k = Keeper.machine ∨ k = Keeper.boundFrame) ∧ Looks (model prog w) h (keeperOf (.ref a)) k := by
  refine ⟨.frame, .inl rfl, (Looks.ld (part := none) ho).andThen ?_⟩
  rw [hd]
  exact .now
theorem callWith_lam {A : Around} {s : Shared} {Q E : Value → Shared → Prop} {env : Env} {o : Obj} {fd : FuncData} (ho : s.heap.get? f = some o) (hd : o.data = .func fd) (h : wpAny (model prog w) A (call (.ref f) []) Q E s) : wpAny (model prog w) A (callWith pos (.ref f) [] (backTo pos (starEach [] env)) []) Q E s :=
  callWith_of (P := fun h => ∃ o fd, h.get? f = some o ∧ o.data = .func fd) rfl (fun h ⟨o, fd, h1, h2⟩ => keeps_fn h1 h2) (evalArgs_nil3 ⟨⟨o, fd, ho, hd⟩, h⟩)
theorem tr_lam (W : c.Ok sc) (ho : (f, kla_obj name qual params body scope cl pm c9 ctv) ∈ l) (hm : (c9, oc) ∈ l) (hv : oc.data = .fields vs) (hq : vs[1]? = some (.str qual t9)) (hroom : c.dp < recursionLimit)
    (hb : bindArgs (kla_fn name qual params body scope cl pm (.ref c9) ctv) ⟨[], []⟩ = pure []) (hco : scope.isCoroutine = false) (hgen : scope.isGenerator = false) (hk : scope.kind = .function) (hcell : ∀ x ∈ scope.names, x.2 ≠ .cell)
    (h : ∀ c' : Wc prog w, c'.Okf scope → c'.cl = cl → c'.dp = c.dp + 1 → c'.un = c.un + 3 → Ev c' (fun y => ([] : List (Str × Value)).reverse.lookup y) l body P) : Tr c m l (call (.ref f) []) P := .mk fun h0 tk Q E H kk => by
  refine wpAny_call (kla_code (binds := []) (env := envX c.cn c.cs c.L c.a c.ccd c.cl) (outer := c.outer) W.B H.F W.X H.N W.T rfl rfl (by show c.cs.kind = _; rw [W.hs]; exact W.hk) ho ⟨c9, oc, vs, t9, rfl, (H.N _ hm).1, hv, hq⟩ hroom hb (fun _ h => nomatch h) (fun g L' h1 FG F' N' B' X' T' => ?_) hco hgen hk hcell)
  let c' : Wc prog w := ⟨c.p, c.loose, c.mean, c.mg, c.mb, c.dp + 1, c.un + 3, c.gd, qual, scope, L', f, .ref c9, cl, envX c.cn c.cs c.L c.a c.ccd c.cl :: c.outer, c.A, c.base, g, c.st h1 tk, envX qual scope L' f (.ref c9) cl⟩
  exact (h c' ⟨⟨B', X', T', rfl, hk⟩, rfl⟩ rfl rfl rfl).run h1 _ _ _ ⟨F', N'⟩ fun v l' h2 tk2 p H2 => leaveK_ H2.F H2.N fun F3 N3 => kk _ _ _ _ p ⟨F3, N3⟩
theorem rx_lam (W : c.Ok sc) (ho : (f, kla_obj name qual params body scope cl pm c9 ctv) ∈ l) (hm : (c9, oc) ∈ l) (hv : oc.data = .fields vs) (hq : vs[1]? = some (.str qual t9)) (hroom : c.dp < recursionLimit)
    (hb : bindArgs (kla_fn name qual params body scope cl pm (.ref c9) ctv) ⟨[], []⟩ = pure []) (hco : scope.isCoroutine = false) (hgen : scope.isGenerator = false) (hk : scope.kind = .function) (hcell : ∀ x ∈ scope.names, x.2 ≠ .cell)
    (h : ∀ c' : Wc prog w, c'.Okf scope → c'.cl = cl → c'.dp = c.dp + 1 → c'.un = c.un + 3 → EvX c' (fun y => ([] : List (Str × Value)).reverse.lookup y) l (eval body c'.env) code) : EvX c m l (call (.ref f) []) code := .mk fun h0 tk Q E H kk => by
  refine wpAny_call (kla_code (binds := []) (env := envX c.cn c.cs c.L c.a c.ccd c.cl) (outer := c.outer) W.B H.F W.X H.N W.T rfl rfl (by show c.cs.kind = _; rw [W.hs]; exact W.hk) ho ⟨c9, oc, vs, t9, rfl, (H.N _ hm).1, hv, hq⟩ hroom hb (fun _ h => nomatch h) (fun g L' h1 FG F' N' B' X' T' => ?_) hco hgen hk hcell)
  let c' : Wc prog w := ⟨c.p, c.loose, c.mean, c.mg, c.mb, c.dp + 1, c.un + 3, c.gd, qual, scope, L', f, .ref c9, cl, envX c.cn c.cs c.L c.a c.ccd c.cl :: c.outer, c.A, c.base, g, c.st h1 tk, envX qual scope L' f (.ref c9) cl⟩
  refine (h c' ⟨⟨B', X', T', rfl, hk⟩, rfl⟩ rfl rfl rfl).run h1 _ _ _ ⟨F', N'⟩ fun e d t od tc h2 tk2 mA R hN hc => ?_
  exact leave_flies B' F' rfl rfl FG R fun h3 R3 => kk e d t od tc h3 tk2 mA R3 hN hc
end
section
variable {prog : Program} {w : World} {A₀ A : Around} {s : Shared} {base h₀ : Heap} {outer : List Env} {L : Addr} {m : Str → Option Value} {news : Led} {K : Frag} {p : Program} {loose : List Str} {mean : ExcName → Option Value} {mg mb : Str → Option Value}
  {R : Result → Shared → Prop} {env : Env} {name qual : Str} {params : Arguments} {body : List Stmt} {scope : Scope} {dV kV doc pm cdv ct oc : Value} {an od : Option Addr} {osl : Array (Option Value)} {f : Addr} {args : Args} {binds : List (Str × Value)}
theorem code_raw (B : Below A₀ base outer h₀) (F : Fr h₀ L s.heap m) (X₀ : K.In h₀) (N : News h₀ L s.heap news) (T : Top p loose mean mg mb h₀) (hA : A.frames = some (env :: outer)) (hf : env.frame = some L) (hke : env.scope.kind = .function)
    (ho : K.lookup f = some ⟨oc, od, .func (fnOf name qual params body scope dV kV doc pm an cdv ct), osl⟩) (hcd : codeIn K cdv qual = true) (hroom : A.depth < recursionLimit)
    (hbind : BindsTo s (fnOf name qual params body scope dV kV doc pm an cdv ct) args binds) (hloc : ∀ y ∈ binds, scope.names.lookup y.1 = some .local)
    (h : ∀ g L' h₁, Fr h₀ L g m → Fr g L' h₁ (fun y => binds.reverse.lookup y) → News g L' h₁ news → Below A base (env :: outer) g → K.In g → Top p loose mean mg mb g →
      wpAny (model prog w) (A.deeper (envOf qual scope L' f cdv)) (execs body (envOf qual scope L' f cdv))
        (fun fl s' => R (.ok (.ret (match fl with | .ret v => v | _ => .none))) s')
        (fun e s' => wpAny (model prog w) (A.deeper (envOf qual scope L' f cdv)) (leaving (envOf qual scope L' f cdv) e) (fun _ s'' => R (.error e) s'') (fun e' s'' => R (.error e') s'') s')
        { s with heap := h₁, toks := s.toks + binds.length })
    (hco : scope.isCoroutine = false) (hgen : scope.isGenerator = false) (hk : scope.kind = .function)
    (hcell : ∀ x ∈ scope.names, x.2 ≠ .cell) : codeAny (model prog w) A (.call (.ref f) args) R s := by
  obtain ⟨FG, BG, st, lv⟩ := groundX (R := R) B F N hA hf hke
  refine codeAny_call_def (fd := fnOf name qual params body scope dV kV doc pm an cdv ct) (body := body) (binds := binds) hroom ((X₀.keeps F.keep) _ _ ho) rfl (T.nolimit.keeps F.keep) (codeRec_of (X₀.keeps F.keep) hcd) rfl hbind hcell hloc (fun h₁ hns hk₁ => ?_) hco hgen hk
  exact h _ s.heap.objs.size h₁ FG ⟨hns, fun b o e => hk₁ b o (of_hideAll _ e), Nat.le_of_eq (hideAll_size _ _)⟩
    (fun p hp => ⟨hk₁ _ _ (N p hp).1, Nat.ne_of_lt (Heap.lt_size (N p hp).1), hideAll_none _ (List.mem_map_of_mem hp)⟩) BG (X₀.keeps st) (T.keeps st)
theorem leaveT {g g' h : Heap} {L' : Addr} {m' : Str → Option Value} (FG : Fr h₀ L g m) (T : KtsTurn [L] g g') (F' : Fr g' L' h m') (N' : News g' L' h news) : Fr h₀ L h m ∧ News h₀ L h news := by
  obtain ⟨oL, es, ep, hL, hLd, hLk, hLf⟩ := FG.ns
  obtain ⟨sl, hL'⟩ := T.frame L oL hL (.head _)
  have old : ∀ b o, h₀.get? b = some o → b ≠ L := fun b o e => fr_not_in FG e
  have kp : ∀ b o, h₀.get? b = some o → g'.get? b = some o := fun b o e => T.other b o (FG.keep b o e) (by simpa only [List.mem_singleton] using old b o e)
  refine ⟨⟨⟨_, es, ep, F'.keep _ _ hL', hLd, hLk, hLf⟩, fun b o e => F'.keep _ _ (kp b o e), FG.above⟩, fun q hq => ⟨(N' q hq).1, fun z => ?_, kts_none kp (N' q hq).2.2⟩⟩
  have := (N' q hq).2.2
  rw [z, hL'] at this
  cases this
end
theorem fact_bex0 : ∀ P, nsIn (Mine.K P) mainGlobals (Str.ofString "BasicError") = some (some (.ref 34)) := fun P => by k_is
section
variable {prog : Program} {w : World} {c : Wc prog w} {sc : Scope} {m : Nm} {l l' : Led} {e : Expr} {pos np : Pos} {x : Str} {code : Str} {P : Value → Led → Prop} {Q : Flow → Shared → Prop} {rest orelse : List Stmt} {h9 : ExceptHandler} {hs : List ExceptHandler}
  {f : Addr} {o : Obj} {fd : FuncData}
theorem go_try (h : Ev c m l e P) (hr : ∀ v l', P v l' → End c Q m l' (.ret v)) : Go c Q m l (.Try [.Return (some e) np] (h9 :: hs) orelse [] pos :: rest) := .mk fun h0 tk E H =>
  wpAny_execs_cons (wpAny_Try_except (wpAny_execs_cons (wpAny_Return_some (h.run h0 tk _ _ H fun v l' h' tk' p H' => (hr v l' p).run h' tk' H'))))
theorem ev_work (W : c.Okf sc) (hm : m x = some (.ref f)) (ho : (f, o) ∈ l) (hd : o.data = .func fd) (h : Tr c m l (call (.ref f) []) P) (hl : sc.names.lookup x = some .local := by rfl) (hx : (x == ("__debug__" : Str)) = false := by decide) : Ev c m l (.Call (.Name x np) [] [] pos) P := .mk fun h0 tk Q E H kk => by
  refine PyProof.Rows.Call_ ((pu_name W hm hl hx).run h0 tk _ E H ?_)
  rintro _ _ h1 tk1 ⟨rfl, rfl⟩ H1
  exact callWith_lam (H1.N _ ho).1 hd (h.run h1 tk1 _ E H1 kk)
theorem told_hit (W : c.Ok sc) (ho : (f, o) ∈ l) (hd : o.data = .func fd) (hdp : c.dp + 10 < recursionLimit) (h : ∀ (c' : Wc prog w) sc' m', c'.Ok sc' → c'.dp = c.dp + 1 → c'.un = c.un + 3 → Tr c' m' l (call (.ref f) []) P) : Tr c m l (call (.ref 189) [.ref f]) P := by
  refine' tr_def (binds := [(Str.ofString "work", .ref f)]) W ?ho ?hcd ?hr ?hb ?hl ?h1 ?h2 ?h3 ?h4 ?_
  (case ho => k_is)
  (case hcd => k_is)
  (case hr => omega)
  (case hb => exact rfl)
  (case hl => exact locs rfl)
  (case h1 => exact rfl)
  (case h2 => exact rfl)
  (case h3 => exact rfl)
  (case h4 => decide)
  intro c' Q W' h1 h2 hret _
  exact go_try (ev_work W' rfl ho hd (h c' _ _ W'.toOk h1 h2)) fun v l' p => hret v _ l' p
structure GoB (c : Wc prog w) (m : Nm) (l : Led) (b : List Stmt) (P : Value → Led → Prop) : Prop where
  run : ∀ h tk (Q : Flow → Shared → Prop) (E : Value → Shared → Prop), At c m l h → (∀ g' h' m2 v l' tk', KtsTurn (frs c.outer) c.h₀ g' → Fr g' c.L h' m2 → News g' c.L h' l' → P v l' → Q (.ret v) (c.st h' tk')) → wpAny (model prog w) c.A (execs b c.env) Q E (c.st h tk)
theorem tr_defB {name qual : Str} {params : Arguments} {scope : Scope} {dV kV doc pm cdv ct oc : Value} {an od : Option Addr} {osl : Array (Option Value)} {f : Addr} {args : List Value} {binds : List (Str × Value)} {body : List Stmt} (W : c.Ok sc) (ho9 : c.outer = [])
    (ho : List.lookup f (Mine.K w.params) = some ⟨oc, od, .func (fnOf name qual params body scope dV kV doc pm an cdv ct), osl⟩) (hcd : codeIn (Mine.K w.params) cdv qual = true) (hroom : c.dp < recursionLimit)
    (hb : bindArgs (fnOf name qual params body scope dV kV doc pm an cdv ct) ⟨args, []⟩ = pure binds) (hloc : ∀ y ∈ binds, scope.names.lookup y.1 = some .local) (hco : scope.isCoroutine = false) (hgen : scope.isGenerator = false) (hk : scope.kind = .function)
    (hcell : ∀ x ∈ scope.names, x.2 ≠ .cell)
    (h : ∀ (c' : Wc prog w), c'.Okf scope → c'.dp = c.dp + 1 → c'.un = c.un + 3 → c'.cl = [] → c'.p = c.p → c'.loose = c.loose → c'.mean = c.mean → c'.mg = c.mg → c'.mb = c.mb → c'.base = c.base → c'.A = c'.A₀.deeper (envOf c'.cn c'.cs c'.L c'.a c'.ccd) → GoB c' (fun y => binds.reverse.lookup y) l body P) :
    Tr c m l (call (.ref f) args) P := .mk fun h0 tk Q E H kk => by
  refine wpAny_call (code_raw (env := envX c.cn c.cs c.L c.a c.ccd c.cl) (outer := c.outer) W.B H.F W.X H.N W.T rfl rfl (by show c.cs.kind = _; rw [W.hs]; exact W.hk) ho hcd hroom (BindsTo.of_eq hb) hloc (fun g L' h1 FG F' N' B' X' T' => ?_) hco hgen hk hcell)
  let c' : Wc prog w := ⟨c.p, c.loose, c.mean, c.mg, c.mb, c.dp + 1, c.un + 3, c.gd, qual, scope, L', f, cdv, [], envX c.cn c.cs c.L c.a c.ccd c.cl :: c.outer, c.A, c.base, g, c.st h1 (tk + binds.length), envOf qual scope L' f cdv⟩
  refine (h c' ⟨⟨B', X', T', rfl, hk⟩, rfl⟩ rfl rfl rfl rfl rfl rfl rfl rfl rfl rfl).run h1 _ _ _ ⟨F', N'⟩ fun g' h' m2 v l' tk' T2 F2 N2 p => ?_
  have T3 : KtsTurn [c.L] g g' := by
    have : frs c'.outer = [c.L] := by show frs (_ :: c.outer) = _; rw [ho9]; rfl
    exact this ▸ T2
  obtain ⟨F3, N3⟩ := leaveT FG T3 F2 N2
  exact kk _ _ _ _ p ⟨F3, N3⟩
theorem go_catch {n x9 : Str} {p1 p3 p4 p5 p6 : Pos} {rest9 : List ExceptHandler} (W : c.Okf sc) (hcl : c.cl = []) (hA : c.A = c.A₀.deeper (envOf c.cn c.cs c.L c.a c.ccd)) (XB : (Mine.K w.params).In c.base) (TB : Top c.p c.loose c.mean c.mg c.mb c.base)
    (h : EvX c m l (eval e c.env) code) (ex : ∀ P, nsIn (Mine.K P) mainGlobals x9 = some (some (.ref 34))) (hl1 : sc.names.lookup n = some .local := by rfl) (hl2 : sc.names.lookup x9 = some .globalImplicit := by rfl) (hd : (x9 == ("__debug__" : Str)) = false := by decide) (hd2 : (n == ("__debug__" : Str)) = false := by decide) :
    GoB c m l (.Try [.Return (some e) np] (.ExceptHandler (some (.Name x9 p1)) (some n) [.Return (some (.Attribute (.Name n p3) (Str.ofString "code") p4)) p5] p6 :: rest9) orelse [] pos :: rest) (Is (StV code) l) := .mk fun h0 tk Q E H kk => by
  refine wpAny_execs_cons (wpAny_Try_except (wpAny_execs_cons (wpAny_Return_some (h.run h0 tk _ _ H ?_))))
  intro e9 d t od tc h' tk' mA R hN hc
  have hev : c.env = envOf c.cn c.cs c.L c.a c.ccd := by rw [show c.env = _ from W.he, hcl]; rfl
  have hod : ∀ vs, od.data ≠ .fields vs := by
    obtain ⟨B, _, _, b3, _⟩ := R.out
    obtain ⟨o2, es, ep, ho2, hd2, _⟩ := hN _ _ b3
    rw [b3] at ho2
    cases ho2
    intro vs hv
    rw [hd2] at hv
    cases hv
  have kl1 : (envOf c.cn c.cs c.L c.a c.ccd).kindOf n = some .local := by show c.cs.names.lookup n = _; rw [W.hs]; exact hl1
  have kl2 : (envOf c.cn c.cs c.L c.a c.ccd).kindOf x9 = some .globalImplicit := by show c.cs.names.lookup x9 = _; rw [W.hs]; exact hl2
  rw [hA, hev]
  have R' : Flies c.h₀ c.L m (envOf c.cn c.cs c.L c.a c.ccd) c.outer l e9 d t od h' := by
    have := R
    rw [hcl] at this
    exact this
  refine catch_bex (base := c.base) (g := c.h₀) (outer := c.outer) (L := c.L) (m := m) (news := l) (s' := c.st h' tk') R' H.F W.B XB TB hod (ex _) ?_ (kind_fn W) kl1 kl2 hd
  intro h2 g2 tk2 oe vs T2 F2 N2 hoe B2 X2 P2
  refine wpAny_execs_cons (wpAny_Return_some (Attribute_Name_ (nameX_L (v := .ref e9) (cl := []) F2 (if_pos rfl) ?_ (kind_fn W) kl1 hd2)))
  obtain ⟨nm, q, N', bs, sn, sub, ab, col, dd, k0, k1, k2, k3, k5, mN, hC, hn, hi, hm1, hm2, hm3, hm4, hm5⟩ := (bex_34 (X2.keeps F2.keep)).out
  have he := (N2 _ (.head _)).1
  rw [hoe] at he
  refine load_exc PySem.F.attrBase_Exception hC hn hm2 hm3 hm4 lk_code he ?_ hc rfl ?_
  · exact (hN _ _ (N2 _ (.tail _ (.head _))).1).ns
  refine name_goes_keeps F2 N2 (fun h3 v3 F3 N3 => ?_) (kind_fn W) kl1
  exact kk _ _ _ _ _ _ T2 F3 (newsSub N3 fun p hp => .tail _ (.tail _ hp)) ⟨⟨_, rfl⟩, rfl⟩
theorem rx_work (W : c.Okf sc) (hm : m x = some (.ref f)) (ho : (f, o) ∈ l) (hd : o.data = .func fd) (h : EvX c m l (call (.ref f) []) code) (hl : sc.names.lookup x = some .local := by rfl) (hx : (x == ("__debug__" : Str)) = false := by decide) : EvX c m l (eval (.Call (.Name x np) [] [] pos) c.env) code := .mk fun h0 tk Q E H kk => by
  refine PyProof.Rows.Call_ ((pu_name W hm hl hx).run h0 tk _ E H ?_)
  rintro _ _ h1 tk1 ⟨rfl, rfl⟩ H1
  exact callWith_lam (H1.N _ ho).1 hd (h.run h1 tk1 _ E H1 kk)
theorem told_miss (W : c.Ok sc) (ho9 : c.outer = []) (XB : (Mine.K w.params).In c.base) (TB : Top c.p c.loose c.mean c.mg c.mb c.base) (ho : (f, o) ∈ l) (hd : o.data = .func fd) (hdp : c.dp + 10 < recursionLimit)
    (h : ∀ (c' : Wc prog w) sc' m', c'.Ok sc' → c'.dp = c.dp + 1 → c'.un = c.un + 3 → EvX c' m' l (call (.ref f) []) code) : Tr c m l (call (.ref 189) [.ref f]) (Is (StV code) l) := by
  refine' tr_defB (binds := [(Str.ofString "work", .ref f)]) W ho9 ?ho ?hcd ?hr ?hb ?hl ?h1 ?h2 ?h3 ?h4 ?_
  (case ho => k_is)
  (case hcd => k_is)
  (case hr => omega)
  (case hb => exact rfl)
  (case hl => exact locs rfl)
  (case h1 => exact rfl)
  (case h2 => exact rfl)
  (case h3 => exact rfl)
  (case h4 => decide)
  intro c' W' h1 h2 h3 e1 e2 e3 e4 e5 e6 hA
  exact go_catch W' h3 hA (e6 ▸ XB) (by rw [e1, e2, e3, e4, e5, e6]; exact TB) (rx_work W' rfl ho hd (h c' _ _ W'.toOk h1 h2)) fact_bex0
end
noncomputable def trip : List (Int × Int × Addr) → List Value
  | [] => []
  | q :: r => rawInt q.1 :: rawInt q.2.1 :: .ref q.2.2 :: trip r
theorem trip_ok : ∀ xs, TriplesOk (trip xs)
  | [] => trivial
  | _ :: r => trip_ok r
theorem trip_snoc : ∀ (xs : List (Int × Int × Addr)) (q : Int × Int × Addr), trip (xs ++ [q]) = trip xs ++ [rawInt q.1, rawInt q.2.1, .ref q.2.2]
  | [], _ => rfl
  | _ :: r, q => by show _ :: _ :: _ :: trip (r ++ [q]) = _; rw [trip_snoc r q]; rfl
theorem among_trip (pos : Pos) : ∀ xs, codeAmong pos (trip xs) = none ∨ ∃ q ∈ xs, codeAmong pos (trip xs) = some (.ref q.2.2)
  | [] => .inl rfl
  | q :: r => by
    show (if (q.1 == pos.line && q.2.1 == pos.col) = true then some (Value.ref q.2.2) else codeAmong pos (trip r)) = none ∨ ∃ q' ∈ q :: r, (if (q.1 == pos.line && q.2.1 == pos.col) = true then some (Value.ref q.2.2) else codeAmong pos (trip r)) = some (.ref q'.2.2)
    by_cases hc : (q.1 == pos.line && q.2.1 == pos.col) = true
    · exact .inr ⟨q, .head _, if_pos hc⟩
    · rcases among_trip pos r with h | ⟨q', hq, h⟩
      · exact .inl (by rw [if_neg hc]; exact h)
      · exact .inr ⟨q', .tail _ hq, by rw [if_neg hc]; exact h⟩
structure CodeIn (l : Led) (qual : Str) (c9 : Addr) : Prop where
  ne : c9 ≠ 191
  out : ∃ oc vs t, (c9, oc) ∈ l ∧ oc.data = .fields vs ∧ vs[1]? = some (.str qual t)
structure TabIn (l : Led) (qual : Str) (xs : List (Int × Int × Addr)) : Prop where
  hm : (191, tabObj (trip xs).toArray) ∈ l
  hc : ∀ q ∈ xs, CodeIn l qual q.2.2
structure LamAt (l : Led) (f : Addr) (qual : Str) (params : Arguments) (body : Expr) (scope : Scope) (clos : List (Str × Addr)) : Prop where
  out : ∃ pm c9 ctv, (f, kla_obj ("<lambda>" : Str) qual params body scope clos pm c9 ctv) ∈ l ∧ CodeIn l qual c9
noncomputable abbrev without (a : Addr) (l : Led) : Led := l.filter fun p => p.1 != a
theorem mem_without {a : Addr} {l : Led} {p : Addr × Obj} : p ∈ without a l ↔ p ∈ l ∧ p.1 ≠ a := by
  rw [List.mem_filter, bne_iff_ne]
theorem CodeIn.sub {l l' : Led} {qual : Str} {c9 : Addr} (h : CodeIn l qual c9) (hs : ∀ p ∈ l, p.1 ≠ 191 → p ∈ l') : CodeIn l' qual c9 :=
  ⟨h.ne, let ⟨oc, vs, t, h1, h2, h3⟩ := h.out; ⟨oc, vs, t, hs _ h1 h.ne, h2, h3⟩⟩
structure KeepT (l l' : Led) : Prop where
  sub : ∀ p ∈ l, p.1 ≠ 191 → p ∈ l'
inductive LamR (l : Led) (xs0 : List (Int × Int × Addr)) (qual : Str) (params : Arguments) (body : Expr) (scope : Scope) (clos : List (Str × Addr)) (v : Value) (l' : Led) : Prop
  | mk (f : Addr) (xs : List (Int × Int × Addr)) (hv : v = .ref f) (ht : TabIn l' qual xs) (ha : LamAt l' f qual params body scope clos) (hk : KeepT l l') (hn : ∀ q ∈ xs, q ∈ xs0 ∨ ∀ p ∈ l, p.1 ≠ q.2.2)
section
variable {prog : Program} {w : World} {c : Wc prog w} {sc : Scope} {m : Nm} {l l' : Led} {pos np lp : Pos} {x : Str} {code : Str} {body : Expr}
  {qual : Str} {params : Arguments} {scope : Scope} {clos : List (Str × Addr)} {xs : List (Int × Int × Addr)} {cA : Addr} {R : Value → Prop}
theorem ev_lam (W : c.Okf sc) (C : CodeHd c.h₀ cA 191) (hcd : c.ccd = .ref cA) (TB : TabIn l qual xs) (hq : c.cn ++ ".<locals>." ++ "<lambda>" = qual) (hcl : closureFor scope (envX c.cn c.cs c.L c.a c.ccd c.cl) = pure clos) (hdef : ∀ env, defaultsOf params env = ([], [])) :
    Ev c m l (.Lambda params body scope pos) (LamR l xs qual params body scope clos) := .mk fun h0 tk Q E H kk => by
  show wpAny _ _ (eval _ c.ev) _ _ _
  rw [W.he]
  refine kla_eval (hdef _) ?_
  rw [show (envX c.cn c.cs c.L c.a c.ccd c.cl).qual ++ "<lambda>" = qual from hq]
  rcases among_trip pos xs with hn | ⟨q, hq9, hh⟩
  · have U : UpdF 191 (tabObj (trip xs).toArray) ((191, tabObj (trip xs).toArray) :: without 191 l) (fun o' => (191, o') :: without 191 l) := .head fun p hp => (mem_without.mp hp).2
    have N1 : News c.h₀ c.L h0 ((191, tabObj (trip xs).toArray) :: without 191 l) := newsSub H.N fun p hp => by
      rcases List.mem_cons.mp hp with rfl | hp
      · exact TB.hm
      · exact (mem_without.mp hp).1
    refine kla_nest (s := c.st h0 tk) H.F N1 W.T C hcd U (by rw [List.toList_toArray]; exact trip_ok xs) (by rw [List.toList_toArray]; exact hn) hcl ?_
    intro f c' oc vs t ctv h' tk' F' N' hd hv l1 l2
    have h191 : (191 : Addr) < c' := l1 _ (.head _)
    have hk : KeepT l ((f, kla_obj ("<lambda>" : Str) qual params body scope clos ((c.mg "__name__").getD .none) c' ctv) :: (c', oc) :: (191, tabObj ((trip xs).toArray ++ #[rawInt pos.line, rawInt pos.col, .ref c'])) :: without 191 l) := ⟨fun p hp hne => .tail _ (.tail _ (.tail _ (mem_without.mpr ⟨hp, hne⟩)))⟩
    have hcI : CodeIn ((f, kla_obj ("<lambda>" : Str) qual params body scope clos ((c.mg "__name__").getD .none) c' ctv) :: (c', oc) :: (191, tabObj ((trip xs).toArray ++ #[rawInt pos.line, rawInt pos.col, .ref c'])) :: without 191 l) qual c' := ⟨Nat.ne_of_gt h191, oc, vs, t, .tail _ (.head _), hd, hv⟩
    refine kk _ _ _ _ (.mk f (xs ++ [((pos.line : Int), (pos.col : Int), c')]) rfl ⟨?_, fun q hq => ?_⟩ ⟨_, c', ctv, .head _, hcI⟩ hk fun q hq => ?_) ⟨F', N'⟩
    · rw [trip_snoc]
      have : (trip xs).toArray ++ #[rawInt pos.line, rawInt pos.col, .ref c'] = (trip xs ++ [rawInt pos.line, rawInt pos.col, .ref c']).toArray := by simp
      rw [this]
      exact .tail _ (.tail _ (.head _))
    · rcases List.mem_append.mp hq with hq | hq
      · exact (TB.hc q hq).sub hk.sub
      · cases List.mem_singleton.mp hq
        exact hcI
    · rcases List.mem_append.mp hq with hq | hq
      · exact .inl hq
      · cases List.mem_singleton.mp hq
        refine .inr fun p hp => ?_
        by_cases hp9 : p.1 = 191
        · rw [hp9]; exact Nat.ne_of_lt h191
        · exact Nat.ne_of_lt (l1 p (.tail _ (mem_without.mpr ⟨hp, hp9⟩)))
  · refine kla_hit (s := c.st h0 tk) H.F H.N W.T C hcd TB.hm (by rw [List.toList_toArray]; exact trip_ok xs) (by rw [List.toList_toArray]; exact hh) hcl ?_
    intro f ctv h' tk' F' N' l1
    have hk : KeepT l ((f, kla_obj ("<lambda>" : Str) qual params body scope clos ((c.mg "__name__").getD .none) q.2.2 ctv) :: l) := ⟨fun p hp _ => .tail _ hp⟩
    exact kk _ _ _ _ (.mk f xs rfl ⟨.tail _ TB.hm, fun q hq => (TB.hc q hq).sub hk.sub⟩ ⟨_, q.2.2, ctv, .head _, (TB.hc q hq9).sub hk.sub⟩ hk fun q hq => .inl hq) ⟨F', N'⟩
end
noncomputable abbrev put (a : Addr) (o : Obj) (l : Led) : Led := (a, o) :: without a l
theorem mem_put {a : Addr} {o : Obj} {l : Led} {p : Addr × Obj} (h : p ∈ l) (hn : p.1 ≠ a) : p ∈ put a o l := .tail _ (mem_without.mpr ⟨h, hn⟩)
theorem put_sub {a : Addr} {o : Obj} {l : Led} (h : (a, o) ∈ l) : ∀ p ∈ put a o l, p ∈ l := fun _ hp => (List.mem_cons.mp hp).elim (fun e => e ▸ h) fun hp => (mem_without.mp hp).1
theorem put_upd {a : Addr} {o o' : Obj} {l : Led} : Upd a o o' (put a o l) (put a o' l) := .head fun _ hp => (mem_without.mp hp).2
theorem put_updF {a : Addr} {o : Obj} {l : Led} : UpdF a o (put a o l) (fun o' => put a o' l) := .head fun _ hp => (mem_without.mp hp).2
theorem FlatIn.put {P : Params} {f : FA} {l : Led} {a : Addr} {o : Obj} (h : FlatIn P f l) (h1 : f.o ≠ a) (h2 : f.d ≠ a) : FlatIn P f (put a o l) := ⟨mem_put h.o h1, mem_put h.d h2⟩
structure Mut (as : List Addr) (st : List Obj) (l : Led) : Prop where
  nd : as.Nodup
  hm : ∀ (k : Nat) a o, as[k]? = some a → st[k]? = some o → (a, o) ∈ l
structure Imm (as : List Addr) (im l : Led) : Prop where
  hi : ∀ p ∈ im, p ∈ l ∧ p.1 ∉ as
section
variable {as : List Addr} {st : List Obj} {im im' l l' : Led} {a b : Addr} {o o' : Obj} {k j : Nat} {P : Params} {f : FA}
theorem Imm.sub (I : Imm as im l) : ∀ p ∈ im, p ∈ l := fun p h => (I.hi p h).1
theorem Imm.mono (I : Imm as im l) (hs : ∀ p ∈ l, p ∈ l') : Imm as im l' := ⟨fun p h => ⟨hs p (I.hi p h).1, (I.hi p h).2⟩⟩
theorem Mut.mono (M : Mut as st l) (hs : ∀ p ∈ l, p ∈ l') : Mut as st l' := ⟨M.nd, fun k a o h1 h2 => hs _ (M.hm k a o h1 h2)⟩
theorem nd_ne (nd : as.Nodup) (h1 : as[k]? = some a) (h2 : as[j]? = some b) (hkj : k ≠ j) : a ≠ b := fun e => by
  exact hkj (List.getElem?_inj (List.getElem?_eq_some_iff.mp h1).1 nd |>.mp (by rw [h1, h2, e]))
theorem Mut.put (M : Mut as st l) (k : Nat) (hk : as[k]? = some a) : Mut as (st.set k o') (put a o' l) := ⟨M.nd, fun j b o h1 h2 => by
  rw [List.getElem?_set] at h2
  split at h2
  · rename_i e
    subst e
    split at h2
    · cases h2
      rw [hk] at h1
      cases h1
      exact .head _
    · cases h2
  · rename_i e
    exact mem_put (M.hm j b o h1 h2) (nd_ne M.nd h1 hk (Ne.symm e))⟩
theorem Imm.put (I : Imm as im l) (k : Nat) (hk : as[k]? = some a) : Imm as im (put a o' l) := ⟨fun p h => ⟨mem_put (I.hi p h).1 fun e => (I.hi p h).2 (e ▸ List.mem_of_getElem? hk), (I.hi p h).2⟩⟩
theorem Imm.add (I : Imm as im l) (ha : (a, o) ∈ l) (hn : a ∉ as) : Imm as ((a, o) :: im) l := ⟨List.forall_mem_cons.mpr ⟨⟨ha, hn⟩, I.hi⟩⟩
theorem Mut.wo (M : Mut as st l) (h : a ∉ as) : Mut as st (without a l) := ⟨M.nd, fun k b o h1 h2 => mem_without.mpr ⟨M.hm k b o h1 h2, fun (e : b = a) => h (e ▸ List.mem_of_getElem? h1)⟩⟩
theorem Imm.wo (I : Imm as im l) (h : ∀ p ∈ im, p.1 ≠ a) : Imm as im (without a l) := ⟨fun p hp => ⟨mem_without.mpr ⟨(I.hi p hp).1, h p hp⟩, (I.hi p hp).2⟩⟩
theorem Mut.off (M : Mut as st l) (hl : as.length = st.length) (h : ∀ p ∈ l, p.1 ≠ a) : a ∉ as := fun hm => by
  obtain ⟨k, hk⟩ := List.getElem?_of_mem hm
  have hlt := (List.getElem?_eq_some_iff.mp hk).1
  exact h _ (M.hm k a st[k] hk (List.getElem?_eq_getElem (hl ▸ hlt))) rfl
theorem Imm.flat (I : Imm as im l) (h : FlatIn P f im) (k : Nat) (hk : as[k]? = some a) : f.o ≠ a ∧ f.d ≠ a := ⟨fun (e : f.o = a) => (I.hi _ h.o).2 (e ▸ List.mem_of_getElem? hk), fun (e : f.d = a) => (I.hi _ h.d).2 (e ▸ List.mem_of_getElem? hk)⟩
end
section
variable {prog : Program} {w : World} {c : Wc prog w} {sc : Scope} {m : Nm} {l l' : Led} {e e0 e1 e2 e3 : Expr} {pos pos' np ap p1 p2 p3 tp : Pos} {x y z : Str} {D : Addr} {o : Obj} {vs : List Value} {n k9 kk9 : Nat} {v : Value} {rest : List Stmt} {Q : Flow → Shared → Prop} {P : Value → Led → Prop} {K : Type} [DecidableEq K] {knd : KeyKind prog w K} {kvs : List (K × Value)} {key : K} {R : Value → Prop}
theorem go_app {vs0 : List Value} {n0 : Nat} {pl : Sem Bool} (W : c.Okf sc) (hm : (D, lstO vs0 n0) ∈ l) (hx : Pu c m l e0 (Eqv (.ref D))) (he : Ev c m l e P) (k : ∀ v l', P v l' → ∃ vs n, (D, lstO vs n) ∈ l' ∧ vs.length < 1000000 ∧ Go c Q m (put D (lstO (vs ++ [v]) (n + 1)) l') rest)
    (hs : starEach [e] c.env = [(false, eval e c.env)] := by rfl) (hq : eval (.Call (.Attribute e0 (Str.ofString "append") ap) [e] [] pos') c.env = (do let ov ← eval e0 c.env; standAt ap.atName; let (f, first) ← holding [ov] (getMethod ov (Str.ofString "append") pl); callWith pos' f first (backTo pos' (starEach [e] c.env)) []) := by rfl)
    (hq2 : swapsWith (.Call (.Attribute e0 (Str.ofString "append") ap) [e] [] pos') none pos.line c.env = pure false := by rfl) : Go c Q m l (.Expr (.Call (.Attribute e0 (Str.ofString "append") ap) [e] [] pos') pos :: rest) := by
  refine go_expr W (P := fun v l'' => v = .none ∧ Go c Q m l'' rest) ?_ (fun _ _ h => h.2) hq2
  refine .mk fun h0 tk Q' E H kk => ?_
  refine MethodCall_ (pl := pl) (hx.run h0 tk _ E H ?_) hq
  rintro _ _ h' tk' ⟨rfl, rfl⟩ H'
  refine listMethod_K H'.N hm slot_list_append rfl (callWith_method1 (PyProof.Rows.args_cons (he.run h' tk' _ E H' ?_) hs) hs rfl)
  intro v l' h2 tk2 p H2
  refine PyProof.Rows.args_nil ?_
  obtain ⟨vs, n, hm2, hz, g⟩ := k v l' p
  have H2 := at_sub H2 (put_sub hm2)
  have e9 : lstO (vs ++ [v]) (n + 1) = PySem.W.listOf (vs.toArray.push v) (n + 1) := by simp [lstO, PySem.W.listOf]
  have U : Upd D (PySem.W.listOf vs.toArray n) (PySem.W.listOf (vs.toArray.push v) (n + 1)) (put D (lstO vs n) l') (put D (lstO (vs ++ [v]) (n + 1)) l') := e9 ▸ put_upd
  exact append_K (its := vs.toArray) H2.F H2.N U (fun h4 F4 N4 => kk _ _ _ _ ⟨rfl, g⟩ ⟨F4, N4⟩) (by rw [sizeLine_eq, List.size_toArray]; omega)
theorem ev_pop {pl : Sem Bool} (hm : (D, lstO (vs ++ [v]) n) ∈ l) (hz : vs.length < 100000) (hx : Pu c m l e0 (Eqv (.ref D)))
    (hq : eval (.Call (.Attribute e0 (Str.ofString "pop") ap) [] [] pos') c.env = (do let ov ← eval e0 c.env; standAt ap.atName; let (f, first) ← holding [ov] (getMethod ov (Str.ofString "pop") pl); callWith pos' f first (backTo pos' (starEach [] c.env)) []) := by rfl) :
    Ev c m l (.Call (.Attribute e0 (Str.ofString "pop") ap) [] [] pos') (fun r l' => r = v ∧ l' = put D (lstO vs (n + 1)) l) := .mk fun h0 tk Q' E H kk => by
  refine MethodCall_ (pl := pl) (hx.run h0 tk _ E H ?_) hq
  rintro _ _ h' tk' ⟨rfl, rfl⟩ H'
  refine listMethod_K H'.N hm PySem.F.slot_list_pop PySem.F.type_list_pop (callWith_method0 ?_)
  have H2 := at_sub H' (put_sub hm)
  exact list_pop (s := c.st h' tk') H2.F H2.N put_upd hz fun h3 F3 N3 => kk _ _ _ _ ⟨rfl, rfl⟩ ⟨F3, N3⟩
theorem go_put (he : Ev c m l e P) (k : ∀ v l1, P v l1 → ∃ D, Pu c m l1 e1 (Eqv (.ref D)) ∧ Ev c m l1 e2 (fun kv l2 => ∃ o kvs key, (D, o) ∈ l2 ∧ o.IsDictOf knd kvs ∧ knd.is key kv = true ∧ kvs.length < 1000000 ∧ ∀ o', o'.IsDictOf knd (stored kvs key v) → Go c Q m (put D o' l2) rest))
    (hs : swapsWith e (some (.Subscript e1 e2 pos')) pos.line c.env = pure false := by rfl) : Go c Q m l (.Assign [.Subscript e1 e2 pos'] e pos :: rest) := .mk fun h9 tk E H => by
  refine wpAny_execs_cons (wpAny_Assign_Subscript (he.run h9 tk _ E H ?_) hs)
  intro v l1 h' tk' p H'
  obtain ⟨D, ho, hi⟩ := k v l1 p
  refine ho.run h' tk' _ E H' ?_
  rintro _ _ h2 tk2 ⟨rfl, rfl⟩ H2
  refine hi.run h2 tk2 _ E H2 ?_
  rintro kv l2 h3 tk3 ⟨o, kvs, key, hm, hd, hkey, hz, k⟩ H3
  have H4 := at_sub H3 (put_sub hm)
  exact kda_set (knd := knd) H4.F H4.N put_updF hd hkey (by rw [sizeLine_eq]; omega) fun h4 o' F4 N4 d4 => (k o' d4).run h4 _ E ⟨F4, N4⟩
theorem ts_ninS {kvs : List (Str × Value)} {bb : Bool} (h1 : Pu c m l e1 (StV x)) (h2 : Pu c m l e2 (Eqv (.ref D))) (hm : (D, o) ∈ l) (hd : o.IsDictOf (PySem.strKind prog w) kvs) (lo : (D == sysModules) = false) (hv : (valueAt kvs x).isSome = bb) (hb : behindInMarks .NotIn e2 = false := by rfl) : Ts c m l (.Compare e1 [.NotIn] [e2] pos) (!bb) :=
  ts_cmp h1 h2 (fun r1 r2 H q => by obtain ⟨_, rfl⟩ := r1; cases r2; exact kdg_notin (knd := PySem.strKind _ _) H.N hm hd lo (strKind_is _ _ _ _) _ hv (q _)) hb
theorem go_trip {P1 : Value → Led → Prop} (W : c.Okf sc) (h1 : Ev c m l e1 P1) (h2 : ∀ v l', P1 v l' → Ev c m l' e2 (fun v2 l2 => Ev c m l2 e3 (fun v3 l3 => Go c Q (upd (upd (upd m z v3) y v2) x v) l3 rest))) (hl : sc.names.lookup x = some .local := by rfl) (hl2 : sc.names.lookup y = some .local := by rfl) (hl3 : sc.names.lookup z = some .local := by rfl)
    (ha : starEach [e1, e2, e3] c.env = (false, eval e1 c.env) :: starEach [e2, e3] c.env := by rfl) (hb : starEach [e2, e3] c.env = (false, eval e2 c.env) :: starEach [e3] c.env := by rfl) (hc : starEach [e3] c.env = [(false, eval e3 c.env)] := by rfl)
    (hs1 : swapsWithSole [.Tuple [.Name x p1, .Name y p2, .Name z p3] k9 tp] (.Tuple [e1, e2, e3] kk9 pos') pos.line c.env = pure false := by rfl) (hs2 : swappedStores [.Tuple [.Name x p1, .Name y p2, .Name z p3] k9 tp] (.Tuple [e1, e2, e3] kk9 pos') (envX x sc 0 0 .none []) = pure (some [x, y, z]) := by rfl) : Go c Q m l (.Assign [.Tuple [.Name x p1, .Name y p2, .Name z p3] k9 tp] (.Tuple [e1, e2, e3] kk9 pos') pos :: rest) := .mk fun h0 tk E H => by
  have hs2 : swappedStores [.Tuple [.Name x p1, .Name y p2, .Name z p3] k9 tp] (.Tuple [e1, e2, e3] kk9 pos') c.env = pure (some [x, y, z]) := by
    rw [show c.env = _ from W.he, W.hs]
    exact hs2
  refine wpAny_execs_cons (Assign_Tuple_swapped (names := [x, y, z]) (Tuple_ (PyProof.Rows.args_cons (h1.run h0 tk _ E H ?_) ha)) hs1 hs2)
  intro v l1 h' tk' p H1
  refine PyProof.Rows.args_cons ((h2 v l1 p).run h' tk' _ E H1 ?_) hb
  intro v2 l2 h2 tk2 p2 H2
  refine PyProof.Rows.args_cons (p2.run h2 tk2 _ E H2 ?_) hc
  intro v3 l3 h3 tk3 pg H3
  refine PyProof.Rows.args_nil (kup_newTuple H3.F H3.N (fun D h3 F3 N3 hD => ?_) (Nat.le_of_ble_eq_true rfl))
  refine unpackItemsN_ (items := #[v, v2, v3]) F3 N3 ⟨_, (N3 _ (.head _)).1, rfl, 0, rfl⟩ rfl rfl fun h4 F4 N4 => ?_
  have e9 := pg.run
  rw [show c.env = _ from W.he] at e9 ⊢
  exact assignInOrder_cons (bindName_ (storeX_L F4 N4 (fun h5 F5 N5 => assignInOrder_cons (bindName_ (storeX_L F5 N5 (fun h6 F6 N6 => assignInOrder_cons (bindName_ (storeX_L F6 N6 (fun h7 F7 N7 => assignInOrder_nil (e9 h7 _ E ⟨F7, newsSub N7 fun _ h => .tail _ h⟩)) (kind_fn W) (kind_sc W hl)))) (kind_fn W) (kind_sc W hl2)))) (kind_fn W) (kind_sc W hl3)))
end
theorem fact_told : ∀ P, nsIn (Mine.K P) mainGlobals (Str.ofString "_law_told") = some (some (.ref 189)) := fun P => by k_is
theorem fact_told2 : ∀ P, keepIn (Mine.K P) (.ref 189) = true := fun P => by k_is
theorem fact_eow : ∀ P, nsIn (Mine.K P) mainGlobals (Str.ofString "end_of_while") = some (some (.ref 135)) := fun P => by k_is
theorem fact_eow2 : ∀ P, keepIn (Mine.K P) (.ref 135) = true := fun P => by k_is
theorem fact_nof : ∀ P, nsIn (Mine.K P) mainGlobals (Str.ofString "next_of_for") = some (some (.ref 142)) := fun P => by k_is
theorem fact_nof2 : ∀ P, keepIn (Mine.K P) (.ref 142) = true := fun P => by k_is
inductive ToldR (l : Led) (xs0 : List (Int × Int × Addr)) (qual : Str) (R : Value → Prop) (v : Value) (l' : Led) : Prop
  | mk (xs : List (Int × Int × Addr)) (hv : R v) (ht : TabIn l' qual xs) (hk : KeepT l l') (hn : ∀ q ∈ xs, q ∈ xs0 ∨ ∀ p ∈ l, p.1 ≠ q.2.2)
section
variable {prog : Program} {w : World} {c : Wc prog w} {sc : Scope} {m : Nm} {l l' : Led} {pos np lp : Pos} {x : Str} {code : Str} {body e : Expr}
  {qual : Str} {params : Arguments} {scope : Scope} {clos : List (Str × Addr)} {xs : List (Int × Int × Addr)} {cA : Addr} {R : Value → Prop} {P : Value → Led → Prop}
theorem rx_call {es : List Expr} {f : Addr} {C : List Value → Led → Prop} (W : c.Okf sc) (hf : ∀ P, nsIn (Mine.K P) mainGlobals x = some (some (.ref f))) (hk : ∀ P, keepIn (Mine.K P) (.ref f) = true) (ha : Ar c m l (e :: es) pos C) (hc : ∀ vs l', C vs l' → l' = l ∧ EvX c m l (call (.ref f) vs) code)
    (hl : sc.names.lookup x = some .globalImplicit := by rfl) (hx : (x == ("__debug__" : Str)) = false := by decide) (hs : starEach (e :: es) c.env = (false, eval e c.env) :: starEach es c.env := by rfl) (hs2 : ((backTo pos (starEach es c.env)).any fun x => x.1) = false := by rfl) : EvX c m l (eval (.Call (.Name x np) (e :: es) [] pos) c.env) code := .mk fun h0 tk Q E H kk => by
  refine PyProof.Rows.Call_ ((pu_gname W hf hl hx).run h0 tk _ E H ?_)
  rintro _ _ h1 tk1 ⟨rfl, rfl⟩ H1
  refine callWith_K W.X (hk _) (ha.run h1 tk1 _ E H1 ?_) hs hs2
  intro vs l' h' tk' p H'
  obtain ⟨rfl, hc⟩ := hc vs l' p
  exact ⟨W.X.keeps H'.F.keep, hc.run h' tk' Q E H' kk⟩
theorem ev_told (W : c.Okf sc) (C : CodeHd c.h₀ cA 191) (hcd : c.ccd = .ref cA) (TB : TabIn l qual xs) (hq : c.cn ++ ".<locals>." ++ "<lambda>" = qual) (hdp : c.dp + 20 < recursionLimit)
    (h : ∀ (c' : Wc prog w) l', KeepT l l' → c'.Okf scope → c'.cl = clos → c'.dp = c.dp + 2 → c'.un = c.un + 6 → Ev c' (fun y => ([] : List (Str × Value)).reverse.lookup y) l' body (Is R l'))
    (hcl : closureFor scope (envX c.cn c.cs c.L c.a c.ccd c.cl) = pure clos) (hp : params = ⟨[], [], none, [], [], none, []⟩) (hco : scope.isCoroutine = false) (hgen : scope.isGenerator = false) (hk : scope.kind = .function) (hcell : ∀ x ∈ scope.names, x.2 ≠ .cell)
    (hl : sc.names.lookup (Str.ofString "_law_told") = some .globalImplicit := by rfl) :
    Ev c m l (.Call (.Name (Str.ofString "_law_told") np) [.Lambda params body scope lp] [] pos) (ToldR l xs qual R) := by
  subst hp
  refine ev_call W fact_told fact_told2 (C := fun vs l' => ∃ v, vs = [v] ∧ LamR l xs qual _ body scope clos v l') (ar_cons (ev_lam W C hcd TB hq hcl fun _ => rfl) fun v l' p => ar_nil ⟨v, rfl, p⟩) ?_ hl
  rintro _ l' ⟨_, rfl, ⟨f, xs', rfl, ht, ha, hkt, hn⟩⟩
  obtain ⟨pm, c9, ctv, hf, hc9⟩ := ha.out
  obtain ⟨oc, vs, t, h1, h2, h3⟩ := hc9.out
  refine (told_hit W.toOk hf rfl (by omega) (P := Is R l') fun c' sc' m' W' e1 e2 => tr_lam W' hf h1 h2 h3 (by omega) rfl hco hgen hk hcell fun c2 W2 g1 g2 g3 => h c2 l' hkt W2 g1 (by omega) (by omega)).mono ?_
  rintro v _ ⟨hv, rfl⟩
  exact .mk xs' hv ht hkt hn
theorem ev_toldX (W : c.Okf sc) (C : CodeHd c.h₀ cA 191) (hcd : c.ccd = .ref cA) (TB : TabIn l qual xs) (hq : c.cn ++ ".<locals>." ++ "<lambda>" = qual) (hdp : c.dp + 20 < recursionLimit) (ho9 : c.outer = []) (XB : (Mine.K w.params).In c.base) (TB9 : Top c.p c.loose c.mean c.mg c.mb c.base)
    (h : ∀ (c' : Wc prog w) l', KeepT l l' → c'.Okf scope → c'.cl = clos → c'.dp = c.dp + 2 → c'.un = c.un + 6 → EvX c' (fun y => ([] : List (Str × Value)).reverse.lookup y) l' (eval body c'.env) code)
    (hcl : closureFor scope (envX c.cn c.cs c.L c.a c.ccd c.cl) = pure clos) (hp : params = ⟨[], [], none, [], [], none, []⟩) (hco : scope.isCoroutine = false) (hgen : scope.isGenerator = false) (hk : scope.kind = .function) (hcell : ∀ x ∈ scope.names, x.2 ≠ .cell)
    (hl : sc.names.lookup (Str.ofString "_law_told") = some .globalImplicit := by rfl) :
    Ev c m l (.Call (.Name (Str.ofString "_law_told") np) [.Lambda params body scope lp] [] pos) (ToldR l xs qual (StV code)) := by
  subst hp
  refine ev_call W fact_told fact_told2 (C := fun vs l' => ∃ v, vs = [v] ∧ LamR l xs qual _ body scope clos v l') (ar_cons (ev_lam W C hcd TB hq hcl fun _ => rfl) fun v l' p => ar_nil ⟨v, rfl, p⟩) ?_ hl
  rintro _ l' ⟨_, rfl, ⟨f, xs', rfl, ht, ha, hkt, hn⟩⟩
  obtain ⟨pm, c9, ctv, hf, hc9⟩ := ha.out
  obtain ⟨oc, vs, t, h1, h2, h3⟩ := hc9.out
  refine (told_miss W.toOk ho9 XB TB9 hf rfl (by omega) (code := code) fun c' sc' m' W' e1 e2 => rx_lam W' hf h1 h2 h3 (by omega) rfl hco hgen hk hcell fun c2 W2 g1 g2 g3 => h c2 l' hkt W2 g1 (by omega) (by omega)).mono ?_
  rintro v _ ⟨hv, rfl⟩
  exact .mk xs' hv ht hkt hn
variable {f : FA} {o : Obj} {kvs : List (Int × Value)} {its : List Value} {n row : Nat} {b : Addr} {line : Int} {t lt : Tok} {tl : List Value} {v : Value}
theorem rx_place (PO : ProgOk prog) (W : c.Ok sc) (hf : FlatIn w.params f l) (D : DictIn prog w l f.places o kvs) (hv : valueAt kvs line = none) (hdp : c.dp + 20 < recursionLimit) (hun : c.un + 300 < cLine) : EvX c m l (call (.ref 114) [.ref f.o, .int line lt]) (Str.ofString "UL") := .mk fun h tk Q E H k =>
  place_of_miss PO ⟨W.B, H.F, W.X, W.T, by rw [W.hs]; exact W.hk⟩ H.N hf D hv hdp hun k
theorem rx_eow (PO : ProgOk prog) (W : c.Ok sc) (hf : FlatIn w.params f l) (D : DictIn prog w l f.pairs o kvs) (hv : valueAt kvs (row : Int) = none) (hr : (f.rows, lstO its n) ∈ l) (hx : its[row]? = some (.ref b)) (hb : (b, tupO (.int line t :: tl)) ∈ l) (hsz : its.length < 100000) (hdp : c.dp + 20 < recursionLimit) (hun : c.un + 300 < cLine) :
    EvX c m l (call (.ref 135) [.ref f.o, .int (row : Int) lt]) (Str.ofString "WE") := .mk fun h tk Q E H k =>
  end_of_while_miss PO ⟨W.B, H.F, W.X, W.T, by rw [W.hs]; exact W.hk⟩ H.N hf D hv hr hx hb hsz hdp hun k
theorem rx_nof (PO : ProgOk prog) (W : c.Ok sc) (hf : FlatIn w.params f l) (D : DictIn prog w l f.loops o kvs) (hv : valueAt kvs (row : Int) = none) (hr : (f.rows, lstO its n) ∈ l) (hx : its[row]? = some (.ref b)) (hb : (b, tupO (.int line t :: tl)) ∈ l) (hsz : its.length < 100000) (hdp : c.dp + 20 < recursionLimit) (hun : c.un + 300 < cLine) :
    EvX c m l (call (.ref 142) [.ref f.o, .int (row : Int) lt]) (Str.ofString "NF") := .mk fun h tk Q E H k =>
  next_of_for_miss PO ⟨W.B, H.F, W.X, W.T, by rw [W.hs]; exact W.hk⟩ H.N hf D hv hr hx hb hsz hdp hun k
theorem tr_eow (W : c.Ok sc) (hf : FlatIn w.params f l) (D : DictIn prog w l f.pairs o kvs) (hv : valueAt kvs (row : Int) = some v) (hdp : c.dp + 10 < recursionLimit) (hun : c.un + 100 < cLine) : Tr c m l (call (.ref 135) [.ref f.o, .int (row : Int) lt]) (Is (Eqv v) l) := .mk fun h tk Q E H k =>
  end_of_while_hit ⟨W.B, H.F, W.X, W.T, by rw [W.hs]; exact W.hk⟩ H.N hf D hv hdp hun fun h' tk' F' N' => k v l h' tk' ⟨rfl, rfl⟩ ⟨F', N'⟩
theorem tr_nof (W : c.Ok sc) (hf : FlatIn w.params f l) (D : DictIn prog w l f.loops o kvs) (hv : valueAt kvs (row : Int) = some v) (hdp : c.dp + 10 < recursionLimit) (hun : c.un + 100 < cLine) : Tr c m l (call (.ref 142) [.ref f.o, .int (row : Int) lt]) (Is (Eqv v) l) := .mk fun h tk Q E H k =>
  next_of_for_hit ⟨W.B, H.F, W.X, W.T, by rw [W.hs]; exact W.hk⟩ H.N hf D hv hdp hun fun h' tk' F' N' => k v l h' tk' ⟨rfl, rfl⟩ ⟨F', N'⟩
theorem tr_line (W : c.Ok sc) (hf : FlatIn w.params f l) (hr : (f.rows, lstO its n) ∈ l) (hx : its[row]? = some (.ref b)) (hb : (b, tupO (.int line t :: tl)) ∈ l) (hsz : its.length < 100000) (hdp : c.dp + 10 < recursionLimit) (hun : c.un + 100 < cLine) : Tr c m l (call (.ref 121) [.ref f.o, .int (row : Int) lt]) (Is (Eqv (.int line t)) l) := .mk fun h tk Q E H k =>
  line_of_call ⟨W.B, H.F, W.X, W.T, by rw [W.hs]; exact W.hk⟩ H.N hf hr hx hb hsz hdp hun fun h' tk' F' N' => k _ l h' tk' ⟨rfl, rfl⟩ ⟨F', N'⟩
end
theorem fact_sorted : bootBuiltins (Str.ofString "sorted") = some (.builtin "sorted") := by boot_fast
theorem fact_sorted0 : ∀ P, nsIn (Mine.K P) mainGlobals (Str.ofString "sorted") = some none := fun P => by k_is
theorem sort_keys9 {vs : List Value} {ks : List Int} (hl : vs.length = ks.length) (hv : ∀ (j : Nat) (v : Value), vs[j]? = some v → ∃ (k : Int) (t : Tok), ks[j]? = some k ∧ v = Value.int k t) : kf_ints vs = true ∧ lks_nums vs = ks := by
  induction vs generalizing ks with
  | nil => cases ks with
    | nil => exact ⟨rfl, rfl⟩
    | cons _ _ => cases hl
  | cons v r ih => cases ks with
    | nil => cases hl
    | cons k ks =>
      obtain ⟨k', t, h1, rfl⟩ := hv 0 v (by rfl)
      cases h1
      obtain ⟨a, b⟩ := ih (Nat.succ.inj hl) fun j v h => hv (j + 1) v h
      exact ⟨a, by show _ :: lks_nums r = _; rw [b]⟩
section
variable {prog : Program} {w : World} {c : Wc prog w} {sc : Scope} {m : Nm} {l l' : Led} {e : Expr} {pos np : Pos} {D : Addr} {o : Obj} {kvs : List (Int × Value)} {P : Value → Led → Prop}
theorem tr_sortedD (Di : DictIn prog w l D o kvs) (hasc : lks_asc (kvs.map (·.1)) = true) (hne : kvs ≠ []) (h64 : kvs.length < 64) (k : ∀ D2 t n, AllLt D2 l → P (.ref D2) ((D2, lstO (lks_vals (kvs.map (·.1)) 0 t) n) :: l)) :
    Tr c m l (call (.builtin "sorted") [.ref D]) P := .mk fun h0 tk Q E H kk => by
  obtain ⟨ep, hat⟩ := KdkAt.of Di.hd
  refine kdu_sorted (s := c.st h0 tk) (kdl_dict (knd := PySem.intKind prog w) (kvs := kvs) (ep := ep) Di.lo) rfl H.F H.N (hat.dictAt (H.N _ Di.hm).1) (by rw [sizeLine_eq]; omega) ?_
  intro D2 h' tk' vs F' N' l1 hl hv
  obtain ⟨a1, a2⟩ := sort_keys9 (vs := vs) (ks := kvs.map (·.1)) (by rw [List.length_map]; exact hl) fun j v h => by
    obtain ⟨k, x, h1, h2⟩ := hv j v h
    obtain ⟨t, rfl⟩ := Value.isInt_shape h2
    exact ⟨k, t, by rw [List.getElem?_map, h1]; rfl, rfl⟩
  refine lks_sort (s := c.st h' tk') (q := kvs.map (·.1)) (news' := fun t => (D2, lstO (lks_vals (kvs.map (·.1)) 0 t) 2) :: l) F' N' (fun t => .head fun p hp => Nat.ne_of_lt (l1 p hp)) (by rw [List.toList_toArray]; exact a1) ?_ ?_ (by rw [List.toList_toArray]; omega) ?_
  · rw [List.toList_toArray]
    unfold lks_ok
    rw [a2, hasc, Bool.and_true]
    exact List.isPerm_iff.mpr (List.Perm.refl _)
  · rw [List.toList_toArray]
    cases vs with
    | nil => exact absurd (List.eq_nil_of_length_eq_zero hl.symm) hne
    | cons _ _ => rfl
  · intro t h2 F2 N2
    exact kk _ _ _ _ (k D2 t 2 (allLt_iff.mpr l1)) ⟨F2, N2⟩
end
section
variable {prog : Program} {w : World} {c : Wc prog w} {sc : Scope} {m : Nm} {l l' : Led} {e : Expr} {pos np : Pos} {x : Str} {P P1 : Value → Led → Prop} {b : String}
theorem ev_bcall1 (hn : Pu c m l (.Name x np) (Eqv (.builtin b))) (h : Ev c m l e P1) (k : ∀ v l', P1 v l' → Tr c m l' (call (.builtin b) [v]) P) (hs : starEach [e] c.env = [(false, eval e c.env)] := by rfl) :
    Ev c m l (.Call (.Name x np) [e] [] pos) P := .mk fun h0 tk Q E H kk => by
  refine PyProof.Rows.Call_ (hn.run h0 tk _ E H ?_)
  rintro _ _ h1 tk1 ⟨rfl, rfl⟩ H1
  refine PyProof.Rows.callWith_builtin1 (PyProof.Rows.args_cons (h.run h1 tk1 _ E H1 ?_) hs) hs rfl
  intro v l' h' tk' p H'
  exact PyProof.Rows.args_nil ((k v l' p).run h' tk' _ E H' kk)
variable {f : FA} {o : Obj} {kvs : List (Int × Value)}
theorem lines_call (W : c.Ok sc) (hf : FlatIn w.params f l) (Di : DictIn prog w l f.places o kvs) (hasc : lks_asc (kvs.map (·.1)) = true) (hne : kvs ≠ []) (h64 : kvs.length < 64) (hdp : c.dp + 10 < recursionLimit) :
    Tr c m l (call (.ref 149) [.ref f.o]) (fun v l' => ∃ D2 t n, AllLt D2 l ∧ v = .ref D2 ∧ l' = (D2, lstO (lks_vals (kvs.map (·.1)) 0 t) n) :: l) := by
  refine' tr_def (binds := [(Str.ofString "flat", .ref f.o)]) W ?ho ?hcd ?hr ?hb ?hl ?h1 ?h2 ?h3 ?h4 ?_
  (case ho => k_is)
  (case hcd => k_is)
  (case hr => omega)
  (case hb => exact rfl)
  (case hl => exact locs rfl)
  (case h1 => exact rfl)
  (case h2 => exact rfl)
  (case h3 => exact rfl)
  (case h4 => decide)
  clear W
  intro c' Q W hd hu hret _
  refine go_ret (ev_bcall1 (P1 := Is (Eqv (.ref f.places)) l) (pu_bname W fact_sorted0 fact_sorted) (pu_places W.toOk hf (pu_name W rfl)) ?_) fun v l2 p => hret v _ l2 p
  rintro _ _ ⟨rfl, rfl⟩
  exact tr_sortedD Di hasc hne h64 fun D2 t n hA => ⟨D2, t, n, hA, rfl, rfl⟩
end
theorem fact_abs : bootBuiltins (Str.ofString "abs") = some (.builtin "abs") := by boot_fast
theorem fact_abs0 : ∀ P, nsIn (Mine.K P) mainGlobals (Str.ofString "abs") = some none := fun P => by k_is
section
variable {prog : Program} {w : World} {c : Wc prog w} {sc : Scope} {m : Nm} {l l' : Led} {e e1 e2 iter target value : Expr} {pos np sp : Pos} {x : Str} {P P1 : Value → Led → Prop} {P2 : Value → Value → Led → Prop} {b : String} {D : Addr} {a : Int} {t : Tok} {its : Array Value} {it : Value} {n : Nat} {lo : Led → Prop} {St : Nat → Led → Prop} {Val : Nat → Value → Led → Prop} {x9 : Addr × Obj}
theorem tr_abs : Tr c m l (call (.builtin "abs") [.int a t]) (Is (IntV (a.natAbs : Int)) l) := .mk fun h tk Q E H k =>
  PyProof.Rows.call_abs_int fun u tk' => k _ _ _ _ ⟨⟨u, by
    have : (if a < 0 then -a else a) = (a.natAbs : Int) := by split <;> omega
    rw [this]⟩, rfl⟩ H
theorem tr_lenK (hl : ∀ h, At c m l h → h.IsList D its) (hz : its.size < 1000000) : Tr c m l (call (.builtin "len") [.ref D]) (Is (IntV (its.size : Int)) l) := .mk fun h tk Q E H k =>
  len_list (hl h H) (by omega) (k _ _ _ _ ⟨⟨_, rfl⟩, rfl⟩ H)
theorem ev_sliceTo {k : Nat} (hv : Pu c m l value (Eqv (.ref D))) (he : Pu c m l e (IntV (k : Int))) (hl : ∀ h, At c m l h → h.IsList D its) (hz : its.size ≤ sizeLine) (kP : ∀ D2, AllLt D2 l → P (.ref D2) ((D2, lstO (its.toList.take k) 0) :: l))
    (ht : ∀ o r, letTemporaryGo value o r = pure () := by intro _ _; rfl) : Ev c m l (.Subscript value (.Slice none (some e) none sp) pos) P := .mk fun h tk Q E H kk => by
  refine Subscript_ (hv.run h tk _ E H ?_)
  rintro _ _ h1 tk1 ⟨rfl, rfl⟩ H1
  refine wpAny_Slice ?_
  rw [evalPart_none, evalPart_some]
  refine wpAny_pure (he.run h1 tk1 _ E H1 ?_)
  rintro _ _ h2 tk2 ⟨⟨t, rfl⟩, rfl⟩ H2
  refine wpAny_pure ?_
  refine kms_slice_lit (s := c.st h2 tk2) H2.F H2.N (hl h2 H2) .none (.int _ _) (zs := its.toList.take k) ?_ (fun D2 h3 F3 N3 l1 => kk _ _ _ _ (kP D2 (allLt_iff.mpr l1)) ⟨F3, N3⟩) ?_ (fun r => ht _ r) hz
  · unfold kms_pick kms_lo kms_hi
    simp only [List.drop_zero, Nat.sub_zero]
    rw [if_neg (by omega), Int.toNat_natCast]
    rw [← List.take_take, List.take_length]
  · with_unfolding_all rfl
theorem ev_addL2 (h1 : Ev c m l e1 P1) (h2 : ∀ v l', P1 v l' → Ev c m l' e2 (P2 v)) (k : ∀ v1 v2 l2, P2 v1 v2 l2 → ∃ D1 D2 xs n1 ys n2, v1 = .ref D1 ∧ v2 = .ref D2 ∧ (D1, lstO xs n1) ∈ l2 ∧ (D2, lstO ys n2) ∈ l2 ∧ xs.length + ys.length < 1000000 ∧ ∀ D, AllLt D l2 → P (.ref D) ((D, lstO (xs ++ ys) 0) :: l2)) : Ev c m l (.BinOp e1 .Add e2 pos) P := .mk fun h tk Q E H kk => by
  refine wpAny_BinOp (h1.run h tk _ E H ?_)
  intro v1 l1 h' tk' p1 H'
  refine (h2 v1 l1 p1).run h' tk' _ E H' ?_
  intro v l' h2 tk2 p H2
  obtain ⟨D1, D2, xs, n1, ys, n2, rfl, rfl, m1, m2, hz, kP⟩ := k v1 v l' p
  exact kmk_add_lit (zs := xs ++ ys) H2.F H2.N ⟨_, (H2.N _ m1).1, rfl, n1, rfl⟩ ⟨_, (H2.N _ m2).1, rfl, n2, rfl⟩ (by rw [List.toList_toArray, List.toList_toArray]) (fun D h3 F3 N3 hD => kk _ _ _ _ (kP D (allLt_iff.mpr hD)) ⟨F3, N3⟩) (by rw [sizeLine_eq, List.toList_toArray, List.toList_toArray]; omega)
theorem Pull.more (U : Pull c m it target n lo St Val) (hx : ∀ l1, lo (x9 :: l1)) : Pull c m it target n (fun _ => True) (fun i own => ∃ o1, own = o1 ++ [x9] ∧ St i o1 ∧ ∀ p ∈ o1, p.1 ≠ x9.1) Val where
  le := by
    rintro i _ ⟨o1, rfl, h, _⟩
    exact U.le i o1 h
  lom := fun _ _ _ _ => trivial
  next := by
    rintro i _ l1 h tk Qn Qv E ⟨o1, rfl, hS, hne⟩ _ hA H hn hv
    rw [List.append_assoc] at H
    refine U.next i o1 (x9 :: l1) h tk Qn Qv E hS (hx l1) ?_ H ?_ ?_
    · intro p hp q hq
      rcases List.mem_cons.mp hq with rfl | hq
      · exact hne p hp
      · exact hA p (List.mem_append_left _ hp) q hq
    · exact fun e h' tk' H' => hn e h' tk' (at_sub H' fun p hp => .tail _ hp)
    · intro hlt v ex own' h' tk' hS' how hval hex H'
      refine hv hlt v ex (own' ++ [x9]) h' tk' ⟨own', rfl, hS', fun p hp => ?_⟩ (fun p hp => ?_) hval hex (by rw [List.append_assoc]; exact H')
      · obtain ⟨o, ho⟩ := how p hp
        exact hne (p.1, o) ho
      · rcases List.mem_append.mp hp with hp | hp
        · obtain ⟨o, ho⟩ := how p hp
          exact ⟨o, List.mem_append_left _ ho⟩
        · exact ⟨p.2, List.mem_append_right _ hp⟩
  self := by
    rintro i _ l1 h tk Q E ⟨o1, rfl, hS, hne⟩ H hq
    rw [List.append_assoc] at H
    exact U.self i o1 (x9 :: l1) h tk Q E hS H hq
theorem src_listE {items : List Value} {k9 : Nat} (hi : Ev c m l iter (fun v l' => ∃ li, AllLt li l ∧ v = .ref li ∧ l' = (li, lstO items k9) :: l)) : Src c m l iter target items.length (fun _ => True) (fun i v ex => ex = [] ∧ items[i]? = some v) := .mk fun h tk Q E H k => by
  refine hi.run h tk _ E H ?_
  rintro _ _ h' tk' ⟨li, hli, rfl, rfl⟩ H'
  refine wpAny_pyIter_list (items := items.toArray) ⟨_, (H'.N _ (.head _)).1, rfl, k9, rfl⟩ ?_
  obtain ⟨H2, A2⟩ := at_push (o := { cls := .type "list_iterator", data := .fields #[.ref li, .int 0 0] }) rfl H'
  refine k (.ref h'.objs.size) [_, (li, lstO items k9)] _ _ _ (Pull.more (x9 := (li, lstO items k9)) (pull_list (I := h'.objs.size) (li := li) (items := items) (k9 := k9)) fun _ => .head _) ⟨[_], rfl, ⟨_, rfl, ⟨rfl, rfl⟩, Nat.zero_le _⟩, fun p hp => ?_⟩ ?_ H2
  · rw [List.mem_singleton.mp hp]
    exact fun e => A2 _ (.head _) (li, lstO items k9) (.head _) e
  · intro p hp q hq
    rcases List.mem_cons.mp hp with rfl | hp
    · exact A2 _ (.head _) q (.tail _ hq)
    · rw [List.mem_singleton.mp hp]
      exact Nat.ne_of_gt (allLt_iff.mp hli q hq)
end
theorem comp_ite {n mk : Nat} {v : Value} {a b r : T} (hb : b ≠ .nil) : comp n (.ite v mk a b r) =
    .ifnot mk (n + 2 + (comp (n + 1) a).length) :: (comp (n + 1) a ++ .jump (n + 2 + (comp (n + 1) a).length + (comp (n + 2 + (comp (n + 1) a).length) b).length) ::
      (comp (n + 2 + (comp (n + 1) a).length) b ++ comp (n + 2 + (comp (n + 1) a).length + (comp (n + 2 + (comp (n + 1) a).length) b).length) r)) := comp.eq_4 n v mk a b r hb
theorem set_mid {α : Type} {x y : α} : ∀ (l r : List α), (l ++ x :: r).set l.length y = l ++ y :: r
  | [], _ => rfl
  | a :: l, r => congrArg (List.cons a) (set_mid l r)
theorem rep_nil {imm : Led} {vs : List Value} {t : T} (h : RepT imm vs t) (e : vs.length = 0) : t = .nil := by
  cases h <;> first | rfl | (simp at e)
theorem word_ne_IF (l : Lf) : (l.word == Str.ofString "IF") = false := by cases l <;> (simp only [Lf.word]; decide)
theorem comp_ite_app {n mk : Nat} {v : Value} {a b r : T} : comp n (.ite v mk a b r) = comp n (.ite v mk a b .nil) ++ comp (n + (comp n (.ite v mk a b .nil)).length) r := by
  by_cases hb : b = .nil
  · subst hb
    rw [comp, comp]
    simp only [comp, List.append_nil, List.length_cons, List.cons_append]
    rw [show n + ((comp (n + 1) a).length + 1) = n + 1 + (comp (n + 1) a).length by omega]
  · rw [comp_ite hb, comp_ite hb]
    simp only [comp, List.append_nil, List.length_cons, List.length_append, List.cons_append, List.append_assoc]
    rw [show n + ((comp (n + 1) a).length + ((comp (n + 2 + (comp (n + 1) a).length) b).length + 1) + 1) = n + 2 + (comp (n + 1) a).length + (comp (n + 2 + (comp (n + 1) a).length) b).length by omega]
structure Grow (a : Addr) (l nw l' : Led) : Prop where
  s : ∀ p ∈ l, p.1 ≠ a → p ∈ l'
  n : ∀ p ∈ nw, p ∈ l' ∧ ∀ x ∈ l, p.1 ≠ x.1
  h0 : ∃ o, (a, o) ∈ l
  h1 : ∃ o, (a, o) ∈ l'
section
variable {a I : Addr} {o o' x : Obj} {l l1 l2 nw nw2 : Led}
theorem Grow.trans (g : Grow a l nw l1) (g2 : Grow a l1 nw2 l2) : Grow a l (nw2 ++ nw) l2 := ⟨fun p h n => g2.s p (g.s p h n) n, List.forall_mem_append.mpr ⟨fun p h => ⟨(g2.n p h).1, fun x hx => by
  by_cases e : x.1 = a
  · obtain ⟨o, ho⟩ := g.h1
    rw [e]
    exact (g2.n p h).2 _ ho
  · exact (g2.n p h).2 x (g.s x hx e)⟩, fun p h => ⟨g2.s p (g.n p h).1 (let ⟨_, ho⟩ := g.h0; (g.n p h).2 _ ho), (g.n p h).2⟩⟩, g.h0, g2.h1⟩
theorem Grow.new {D : Addr} (h : (a, o) ∈ l) (hD : AllLt D l) : Grow a l [(D, x)] ((D, x) :: l) := ⟨fun p h _ => .tail _ h, List.forall_mem_singleton.mpr ⟨.head _, fun y hy => Nat.ne_of_gt (allLt_iff.mp hD y hy)⟩, ⟨o, h⟩, ⟨o, .tail _ h⟩⟩
theorem Grow.put (h : (a, o) ∈ l) : Grow a l [] (put a o' l) := ⟨fun _ h n => mem_put h n, (fun _ h => nomatch h), ⟨o, h⟩, ⟨o', .head _⟩⟩
theorem Grow.turn (g : Grow a l nw l1) (g2 : Grow a ((I, x) :: l1) nw2 l2) (off : ∀ p ∈ l1, p.1 ≠ I) : Grow a l (nw2 ++ nw) (without I l2) ∧ (I, x) ∈ l2 := by
  obtain ⟨o1, ho1⟩ := g.h1
  obtain ⟨o2, ho2⟩ := g2.h1
  have h9 : ∀ p ∈ l1, p.1 ≠ a → p ∈ without I l2 := fun p h n => mem_without.mpr ⟨g2.s p (.tail _ h) n, off p h⟩
  refine ⟨⟨fun p h n => h9 p (g.s p h n) n, List.forall_mem_append.mpr ⟨fun p h => ⟨mem_without.mpr ⟨(g2.n p h).1, (g2.n p h).2 _ (.head _)⟩, fun y hy => ?_⟩, fun p h => ⟨h9 p (g.n p h).1 (let ⟨_, ho⟩ := g.h0; (g.n p h).2 _ ho), (g.n p h).2⟩⟩, g.h0, ⟨o2, mem_without.mpr ⟨ho2, off (a, o1) ho1⟩⟩⟩, g2.s _ (.head _) (Ne.symm (off _ ho1))⟩
  by_cases e : y.1 = a
  · rw [e]
    exact (g2.n p h).2 _ (.tail _ ho1)
  · exact (g2.n p h).2 y (.tail _ (g.s y hy e))
end
inductive PutR (a : Addr) (l im : Led) (its : List Value) (line : Int) (rs : List RK) (l' : Led) : Prop
  | mk (vals : List Value) (nw : Led) (n' : Nat) (hr : (a, lstO (its ++ vals) n') ∈ l') (g : Grow a l nw l') (R : RowsAt (nw ++ im) line vals rs)
structure PutH (P : Params) (f : FA) (im l : Led) : Prop where
  hf : FlatIn P f im
  hi : ∀ p ∈ im, p ∈ l ∧ p.1 ≠ f.rows
theorem PutH.grow {P : Params} {f : FA} {im l nw l' : Led} (H : PutH P f im l) (g : Grow f.rows l nw l') : PutH P f im l' := ⟨H.hf, fun p h => ⟨g.s p (H.hi p h).1 (H.hi p h).2, (H.hi p h).2⟩⟩
theorem PutH.fl {P : Params} {f : FA} {im l : Led} (H : PutH P f im l) : FlatIn P f l := H.hf.mono fun p h => (H.hi p h).1
theorem fact_all : ∀ P, nsIn (Mine.K P) mainGlobals (Str.ofString "put_all") = some (some (.ref 79)) := fun P => by k_is
theorem fact_all2 : ∀ P, keepIn (Mine.K P) (.ref 79) = true := fun P => by k_is
theorem fact_if : ∀ P, nsIn (Mine.K P) mainGlobals (Str.ofString "put_if") = some (some (.ref 72)) := fun P => by k_is
theorem fact_if2 : ∀ P, keepIn (Mine.K P) (.ref 72) = true := fun P => by k_is
theorem fact_row : ∀ P, nsIn (Mine.K P) mainGlobals (Str.ofString "put_row_of") = some (some (.ref 65)) := fun P => by k_is
theorem fact_row2 : ∀ P, keepIn (Mine.K P) (.ref 65) = true := fun P => by k_is
theorem dp_le {a b k j lim : Nat} (h : a + k < lim) (hj : b + j ≤ a + k) : b + j < lim := Nat.lt_of_le_of_lt hj h
section
variable {prog : Program} {w : World} {c : Wc prog w} {sc : Scope} {m : Nm} {l im : Led} {f : FA} {its xs ys : List Value} {n nq : Nat} {line : Int} {lt : Tok} {q : Addr} {e e1 e2 : Expr} {pos pos' : Pos} {rest : List Stmt} {Q : Flow → Shared → Prop} {P : Value → Led → Prop}
theorem go_setP (he : Ev c m l e P) (k : ∀ v l1, P v l1 → ∃ D vs n, ∃ a : Nat, (D, lstO vs n) ∈ l1 ∧ Pu c m l1 e1 (Eqv (.ref D)) ∧ Pu c m l1 e2 (IntV (a : Int)) ∧ a < vs.length ∧ a < 1000000 ∧ Go c Q m (put D (lstO (vs.set a v) n) l1) rest)
    (hs : swapsWith e (some (.Subscript e1 e2 pos')) pos.line c.env = pure false := by rfl) : Go c Q m l (.Assign [.Subscript e1 e2 pos'] e pos :: rest) := .mk fun h9 tk E H => by
  refine wpAny_execs_cons (wpAny_Assign_Subscript (he.run h9 tk _ E H ?_) hs)
  intro v l1 h' tk' p H'
  obtain ⟨D, vs, n, a, hm, ho, hi, ha, hz, k⟩ := k v l1 p
  refine ho.run h' tk' _ E H' ?_
  rintro _ _ h2 tk2 ⟨rfl, rfl⟩ H2
  refine hi.run h2 tk2 _ E H2 ?_
  rintro _ _ h3 tk3 ⟨⟨t, rfl⟩, rfl⟩ H3
  have H4 := at_sub H3 (put_sub hm)
  refine list_set H4.F H4.N (v := v) (put_upd (o' := lstO (vs.set ((a : Int)).toNat v) n)) (Int.natCast_nonneg _) (Int.ofNat_lt.mpr ha) (by omega) fun h4 F4 N4 => ?_
  rw [Int.toNat_natCast] at N4
  exact k.run h4 _ E ⟨F4, N4⟩
theorem go_ret0 (h : End c Q m l (.ret .none)) : Go c Q m l (.Return none pos :: rest) := .mk fun h0 tk E H => wpAny_execs_cons (wpAny_Return_none (h.run h0 tk H))
inductive RowR (a : Addr) (l : Led) (its : List Value) (ln stm : Value) (v : Value) (l' : Led) : Prop
  | mk (tu : Addr) (n' : Nat) (t : Tok) (hv : v = .int ((its.length : Nat) : Int) t) (hr : (a, lstO (its ++ [.ref tu]) n') ∈ l') (hm : (tu, tupO [ln, stm]) ∈ l') (g : Grow a l [(tu, tupO [ln, stm])] l')
set_option maxRecDepth 100000 in
theorem prow {ln stm : Value} (W : c.Ok sc) (hf : FlatIn w.params f l) (hr : (f.rows, lstO its n) ∈ l) (hz : its.length < 100000) (hd : c.dp + 10 < recursionLimit) (f1 : f.o ≠ f.rows ∧ f.d ≠ f.rows) :
    Tr c m l (call (.ref 65) [.ref f.o, ln, stm]) (RowR f.rows l its ln stm) := by
  refine' tr_def (binds := [(Str.ofString "flat", .ref f.o), (Str.ofString "line", ln), (Str.ofString "statement", stm)]) W ?ho ?hcd ?hr ?hb ?hl ?h1 ?h2 ?h3 ?h4 ?_
  (case ho => k_is)
  (case hcd => k_is)
  (case hr => exact Nat.lt_of_le_of_lt (Nat.le_add_right _ _) hd)
  (case hb => exact rfl)
  (case hl => exact locs rfl)
  (case h1 => exact rfl)
  (case h2 => exact rfl)
  (case h3 => exact rfl)
  (case h4 => decide)
  clear W
  intro c' Q W _ _ hret _
  refine go_app W (P := fun v l' => ∃ T, v = .ref T ∧ AllLt T l ∧ l' = (T, tupO [ln, stm]) :: l) hr (pu_rows W.toOk hf (pu_name W rfl)) (ev_tup (P1 := fun as l' => as = [ln, stm] ∧ l' = l) (ar_cons (pu_name W rfl) ?_) ?_) ?_
  · rintro _ _ ⟨rfl, rfl⟩
    refine ar_cons (pu_name W rfl) ?_
    rintro _ _ ⟨rfl, rfl⟩
    exact ar_nil ⟨rfl, rfl⟩
  · rintro _ _ ⟨rfl, rfl⟩
    exact ⟨Nat.le_of_ble_eq_true rfl, fun D hD => ⟨D, rfl, hD, rfl⟩⟩
  rintro _ _ ⟨T, rfl, hT, rfl⟩
  refine ⟨its, n, .tail _ hr, Nat.lt_trans hz (by decide), ?_⟩
  refine go_ret (Pu.as (pu_subt (a := (((its ++ [Value.ref T]).length : Nat) : Int)) (b := 1) (pu_len W (.head _) (by rw [List.length_append]; exact Nat.lt_of_le_of_lt hz (by decide)) (pu_rows W.toOk ((hf.mono fun p h => .tail _ h).put f1.1 f1.2) (pu_name W rfl))) pu_int) (b := ((its.length : Nat) : Int)) (by rw [List.length_append]; show ((its.length : Int) + 1) - 1 = _; exact Int.add_sub_cancel _ _)) ?_
  rintro _ _ ⟨⟨t, rfl⟩, rfl⟩
  exact hret _ _ _ (.mk T (n + 1) t rfl (.head _) (mem_put (.head _) (Nat.ne_of_gt (allLt_iff.mp hT _ hr))) ((Grow.new hr hT).trans (Grow.put (.tail _ hr))))
noncomputable def PutA (prog : Program) (w : World) (t : T) : Prop :=
  ∀ {c : Wc prog w} {sc : Scope} {m : Nm} {l im : Led} {f : FA} {its xs : List Value} {n nq : Nat} {line : Int} {lt : Tok} {q : Addr}, c.Ok sc → PutH w.params f im l → (f.rows, lstO its n) ∈ l → (q, lstO xs nq) ∈ im → RepT im xs t → its.length + t.size < 100000 → c.dp + 2 * t.hgt + 20 < recursionLimit →
    Tr c m l (call (.ref 79) [.ref f.o, .int line lt, .ref q]) (fun _ l' => PutR f.rows l im its line (comp its.length t) l')
theorem ev_call3 {e1 e2 e3 : Expr} {v1 v2 v3 : Value} {x : Str} {np : Pos} {fa : Addr} (W : c.Okf sc) (hf : ∀ P, nsIn (Mine.K P) mainGlobals x = some (some (.ref fa))) (hk : ∀ P, keepIn (Mine.K P) (.ref fa) = true) (h1 : Pu c m l e1 (Eqv v1)) (h2 : Pu c m l e2 (Eqv v2)) (h3 : Pu c m l e3 (Eqv v3)) (hc : Tr c m l (call (.ref fa) [v1, v2, v3]) P)
    (hl : sc.names.lookup x = some .globalImplicit := by rfl) (hx : (x == ("__debug__" : Str)) = false := by decide) (ha : starEach [e1, e2, e3] c.env = (false, eval e1 c.env) :: starEach [e2, e3] c.env := by rfl) (hb : starEach [e2, e3] c.env = (false, eval e2 c.env) :: starEach [e3] c.env := by rfl) (hc3 : starEach [e3] c.env = [(false, eval e3 c.env)] := by rfl) : Ev c m l (.Call (.Name x np) [e1, e2, e3] [] pos) P := by
  refine ev_call W hf hk (C := fun vs l' => vs = [v1, v2, v3] ∧ l' = l) (ar_cons h1 ?_ ha) ?_ hl hx ha (by rw [hb, hc3]; rfl)
  · rintro _ _ ⟨rfl, rfl⟩
    refine ar_cons h2 ?_ hb
    rintro _ _ ⟨rfl, rfl⟩
    refine ar_cons h3 ?_ hc3
    rintro _ _ ⟨rfl, rfl⟩
    exact ar_nil ⟨rfl, rfl⟩
  · rintro _ _ ⟨rfl, rfl⟩
    exact hc
noncomputable abbrev NewT (l : Led) (Tp : List Value → Prop) (v : Value) (l' : Led) : Prop := ∃ D tl, v = .ref D ∧ AllLt D l ∧ Tp tl ∧ l' = (D, tupO tl) :: l
theorem go_rowset {i k9 : Nat} {vs : List Value} {Tp : List Value → Prop} {p1 p2 p3 p4 p5 : Pos} {pr : Params} (hw : pr = w.params) (W : c.Okf sc) (nf : m (Str.ofString "flat") = some (.ref f.o)) (nl : m (Str.ofString "line") = some (.int line lt)) (H : PutH pr f im l) (hr : (f.rows, lstO vs n) ∈ l) (hi : i < vs.length) (hz : i < 1000000) (he : Ev c m l e (NewT l Tp)) (hx : ∀ l', Pu c m l' e2 (IntV (i : Int)))
    (k : ∀ D8 D9 tl l', Tp tl → Grow f.rows l [(D9, tupO [.int line lt, .ref D8]), (D8, tupO tl)] l' → (f.rows, lstO (vs.set i (.ref D9)) n) ∈ l' → Go c Q m l' rest)
    (l1 : sc.names.lookup (Str.ofString "flat") = some .local := by rfl) (l2 : sc.names.lookup (Str.ofString "line") = some .local := by rfl) (hs : starEach [.Name (Str.ofString "line") p1, e] c.env = (false, eval (.Name (Str.ofString "line") p1) c.env) :: starEach [e] c.env := by rfl) (hs2 : starEach [e] c.env = [(false, eval e c.env)] := by rfl)
    (hsw : swapsWith (.Tuple [.Name (Str.ofString "line") p1, e] k9 p2) (some (.Subscript (.Attribute (.Name (Str.ofString "flat") p3) (Str.ofString "rows") p4) e2 p5)) pos.line c.env = pure false := by rfl) :
    Go c Q m l (.Assign [.Subscript (.Attribute (.Name (Str.ofString "flat") p3) (Str.ofString "rows") p4) e2 p5] (.Tuple [.Name (Str.ofString "line") p1, e] k9 p2) pos :: rest) := by
  subst hw
  refine go_setP (P := fun v l' => ∃ D9 D8 tl, v = .ref D9 ∧ AllLt D8 l ∧ Tp tl ∧ AllLt D9 ((D8, tupO tl) :: l) ∧ l' = (D9, tupO [.int line lt, .ref D8]) :: (D8, tupO tl) :: l) (ev_tup (P1 := fun vs l' => ∃ D8 tl, vs = [.int line lt, .ref D8] ∧ AllLt D8 l ∧ Tp tl ∧ l' = (D8, tupO tl) :: l) (ar_cons (pu_name W nl l2) ?_ hs) ?_) ?_ hsw
  · rintro _ _ ⟨rfl, rfl⟩
    refine ar_cons he ?_ hs2
    rintro _ _ ⟨D8, tl, rfl, h8, ht, rfl⟩
    exact ar_nil ⟨D8, tl, rfl, h8, ht, rfl⟩
  · rintro _ _ ⟨D8, tl, rfl, h8, ht, rfl⟩
    exact ⟨Nat.le_of_ble_eq_true rfl, fun D hD => ⟨D, D8, tl, rfl, h8, ht, hD, rfl⟩⟩
  rintro _ _ ⟨D9, D8, tl, rfl, h8, ht, h9, rfl⟩
  have hr2 : (f.rows, lstO vs n) ∈ (D9, tupO [.int line lt, .ref D8]) :: (D8, tupO tl) :: l := .tail _ (.tail _ hr)
  exact ⟨f.rows, vs, n, i, hr2, pu_rows W.toOk (H.fl.mono fun p h => .tail _ (.tail _ h)) (pu_name W nf l1), hx _, hi, hz, k D8 D9 tl _ ht (((Grow.new hr h8).trans (Grow.new (.tail _ hr) h9)).trans (Grow.put hr2)) (.head _)⟩
theorem ev_ifnot {e2 e3 : Expr} {v2 : Value} {N k9 : Nat} {wd : Str} {p1 : Pos} {j : Nat} (h2 : Pu c m l e2 (Eqv v2)) (h3 : Pu c m l e3 (IntV (N : Int))) (hb : starEach [e2, e3] c.env = (false, eval e2 c.env) :: starEach [e3] c.env := by rfl) (hc : starEach [e3] c.env = [(false, eval e3 c.env)] := by rfl) :
    Ev c m l (.Tuple [.Constant (.str wd) j p1, e2, e3] k9 pos) (NewT l fun tl => ∃ t1 t2, tl = [.str wd t1, v2, .int (N : Int) t2]) := by
  refine ev_tup (P1 := fun vs l' => (∃ t1 t2, vs = [.str wd t1, v2, .int (N : Int) t2]) ∧ l' = l) (ar_cons pu_str ?_ rfl) ?_
  · rintro _ _ ⟨⟨t1, rfl⟩, rfl⟩
    refine ar_cons h2 ?_ hb
    rintro _ _ ⟨rfl, rfl⟩
    refine ar_cons h3 ?_ hc
    rintro _ _ ⟨⟨t2, rfl⟩, rfl⟩
    exact ar_nil ⟨⟨t1, t2, rfl⟩, rfl⟩
  · rintro _ _ ⟨⟨t1, t2, rfl⟩, rfl⟩
    exact ⟨Nat.le_of_ble_eq_true rfl, fun D hD => ⟨D, _, rfl, hD, ⟨t1, t2, rfl⟩, rfl⟩⟩
theorem ev_jump {e3 : Expr} {N k9 : Nat} {wd : Str} {p1 : Pos} {j : Nat} (h3 : Pu c m l e3 (IntV (N : Int))) (hc : starEach [e3] c.env = [(false, eval e3 c.env)] := by rfl) :
    Ev c m l (.Tuple [.Constant (.str wd) j p1, e3] k9 pos) (NewT l fun tl => ∃ t1 t2, tl = [.str wd t1, .int (N : Int) t2]) := by
  refine ev_tup (P1 := fun vs l' => (∃ t1 t2, vs = [.str wd t1, .int (N : Int) t2]) ∧ l' = l) (ar_cons pu_str ?_ rfl) ?_
  · rintro _ _ ⟨⟨t1, rfl⟩, rfl⟩
    refine ar_cons h3 ?_ hc
    rintro _ _ ⟨⟨t2, rfl⟩, rfl⟩
    exact ar_nil ⟨⟨t1, t2, rfl⟩, rfl⟩
  · rintro _ _ ⟨⟨t1, t2, rfl⟩, rfl⟩
    exact ⟨Nat.le_of_ble_eq_true rfl, fun D hD => ⟨D, _, rfl, hD, ⟨t1, t2, rfl⟩, rfl⟩⟩
end
structure PNm (m : Nm) (f : FA) (line : Int) (lt : Tok) (o : Value) : Prop where
  nf : m (Str.ofString "flat") = some (.ref f.o)
  nl : m (Str.ofString "line") = some (.int line lt)
  ns : m (Str.ofString "statement") = some o
theorem PNm.upd {m : Nm} {f : FA} {line : Int} {lt : Tok} {o : Value} {x : Str} (h : PNm m f line lt o) (v : Value) (h1 : Str.ofString "flat" ≠ x) (h2 : Str.ofString "line" ≠ x) (h3 : Str.ofString "statement" ≠ x) : PNm (upd m x v) f line lt o := ⟨(if_neg h1).trans h.nf, (if_neg h2).trans h.nl, (if_neg h3).trans h.ns⟩
section
variable {prog : Program} {w : World} {c : Wc prog w} {sc : Scope} {m : Nm} {l im : Led} {f : FA} {its xs ys : List Value} {n n1 n2 mk : Nat} {line : Int} {lt k1 k2 k3 : Tok} {o q x y : Addr} {ta tb : T} {Q : Flow → Shared → Prop} {rest : List Stmt}
theorem big_of {x : Nat} (h : x < 100000) : x < 1000000 := Nat.lt_trans h (by decide)
theorem pif_num {a b c p q : Nat} (h : a + b + c + 2 < 100000) (hp : p ≤ b) (hq : q ≤ c) : a < 100000 ∧ c < 100000 ∧ a + 1 + b < 100000 ∧ a + 1 + p < 100000 ∧ a + 2 + p < 100000 ∧ a + 2 + p + c < 100000 ∧ a + 2 + p + q < 100000 ∧ a + 1 + p < a + 2 + p + q := by omega
theorem pif_dp {d d' x y : Nat} (e : d' = d + 1) (hx : x ≤ y) (h : d + 2 * y + 21 < recursionLimit) : d' + 2 * x + 20 < recursionLimit := by omega
theorem pal_num {a v x y r s : Nat} (z : v + (x + y + r + 2) ≤ s) (h : a + s < 100000) : x < s ∧ y < s ∧ a + v + x + y + 2 < 100000 := by omega
theorem pal_num2 {v x y r s z : Nat} (h : v + (x + y + r + 2) ≤ s) (h2 : z ≤ x + y + 0 + 2) : v + z + r ≤ s := by omega
theorem pal_dp {d d' x y r g : Nat} (e : d' = d + 1) (h : max (max x y + 1) r ≤ g) (h2 : d + 2 * g + 20 < recursionLimit) : d' + 2 * max x y + 21 < recursionLimit := by have := Nat.le_trans (Nat.le_max_left _ _) h; omega
theorem pal_num1 {a v b s : Nat} (h : a + s < 100000) (z : v + b ≤ s) : a + v < 100000 := Nat.lt_of_le_of_lt (Nat.add_le_add_left (Nat.le_trans (Nat.le_add_right _ _) z) _) h
set_option maxRecDepth 100000 in
set_option maxHeartbeats 4000000 in
theorem pif (PA : PutA prog w ta) (PB : PutA prog w tb) (W : c.Ok sc) (H : PutH w.params f im l) (hr : (f.rows, lstO its n) ∈ l) (ho : (o, tupO [.str (Str.ofString "IF") k1, .ref q, .ref x, .ref y]) ∈ im) (hq : (q, tupO [.str (Str.ofString "whole") k2, .int (mk : Int) k3]) ∈ im) (hx : (x, lstO xs n1) ∈ im) (hy : (y, lstO ys n2) ∈ im)
    (ra : RepT im xs ta) (rb : RepT im ys tb) (hsz : its.length + ta.size + tb.size + 2 < 100000) (hdp : c.dp + 2 * max ta.hgt tb.hgt + 21 < recursionLimit) :
    Tr c m l (call (.ref 72) [.ref f.o, .int line lt, .ref o]) (fun _ l' => PutR f.rows l im its line (comp its.length (.ite (.ref o) mk ta tb .nil)) l') := by
  refine' tr_def (binds := [(Str.ofString "flat", .ref f.o), (Str.ofString "line", .int line lt), (Str.ofString "statement", .ref o)]) W ?ho ?hcd ?hr ?hb ?hl ?h1 ?h2 ?h3 ?h4 ?_
  (case ho => k_is)
  (case hcd => k_is)
  (case hr => exact Nat.lt_of_le_of_lt (Nat.le_trans (Nat.le_add_right _ _) (Nat.le_add_right _ _)) hdp)
  (case hb => exact rfl)
  (case hl => exact locs rfl)
  (case h1 => exact rfl)
  (case h2 => exact rfl)
  (case h3 => exact rfl)
  (case h4 => decide)
  clear W
  intro c' Q W hd9 _ hret hret2
  have hda : c'.dp + 2 * ta.hgt + 20 < recursionLimit := pif_dp hd9 (Nat.le_max_left _ _) hdp
  have hdb : c'.dp + 2 * tb.hgt + 20 < recursionLimit := pif_dp hd9 (Nat.le_max_right _ _) hdp
  have hd10 : c'.dp + 10 < recursionLimit := dp_le hda (Nat.add_le_add (Nat.le_add_right _ _) (by decide))
  clear hd9 hdp
  have off : f.o ≠ f.rows ∧ f.d ≠ f.rows := ⟨(H.hi _ H.hf.o).2, (H.hi _ H.hf.d).2⟩
  have lb := comp_length_le ta (its.length + 1)
  obtain ⟨za, zc, zab, zap, zap2, zapc, zapq, zlt⟩ := pif_num hsz lb (comp_length_le tb (its.length + 2 + (comp (its.length + 1) ta).length))
  have N0 : PNm (fun y => ([(Str.ofString "flat", Value.ref f.o), (Str.ofString "line", .int line lt), (Str.ofString "statement", .ref o)] : List (Str × Value)).reverse.lookup y) f line lt (.ref o) := ⟨rfl, rfl, rfl⟩
  generalize (fun y => ([(Str.ofString "flat", Value.ref f.o), (Str.ofString "line", .int line lt), (Str.ofString "statement", .ref o)] : List (Str × Value)).reverse.lookup y) = m1 at N0 ⊢
  have ln9 : ∀ (vs : List Value) (n : Nat) (l9 : Led), (f.rows, lstO vs n) ∈ l9 → PutH w.params f im l9 → vs.length < 1000000 → ∀ (m2 : Nm) p1 p2 p3 p4, m2 (Str.ofString "flat") = some (.ref f.o) → Pu c' m2 l9 (.Call (.Name (Str.ofString "len") p1) [.Attribute (.Name (Str.ofString "flat") p2) (Str.ofString "rows") p3] [] p4) (IntV ((vs.length : Nat) : Int)) := fun vs n l9 h1 h2 h3 m2 p1 p2 p3 p4 h4 => pu_len W h1 h3 (pu_rows W.toOk h2.fl (pu_name W h4))
  refine go_assign W (ev_call3 W fact_row fact_row2 (pu_name W N0.nf) (pu_name W N0.nl) (pu_name W N0.ns) (prow W.toOk H.fl hr za hd10 off)) ?_
  rintro _ l1 ⟨tu, n3, t0, rfl, hr1, _, G1⟩
  have H1 := H.grow G1
  have N1 := N0.upd (x := Str.ofString "test") (.int ((its.length : Nat) : Int) t0) (by decide +kernel) (by decide +kernel) (by decide +kernel)
  have T1 : upd m1 (Str.ofString "test") (.int ((its.length : Nat) : Int) t0) (Str.ofString "test") = some (.int ((its.length : Nat) : Int) t0) := if_pos rfl
  generalize upd m1 (Str.ofString "test") (.int ((its.length : Nat) : Int) t0) = m2 at N1 T1 ⊢
  have st : ∀ (l9 : Led) (m9 : Nm) (k : Nat) (v : Value) p1 p2 p3 j, PutH w.params f im l9 → PNm m9 f line lt (.ref o) → ([.str (Str.ofString "IF") k1, .ref q, .ref x, .ref y] : List Value)[k]? = some v → k < 1000 → Pu c' m9 l9 (.Subscript (.Name (Str.ofString "statement") p1) (.Constant (.int (k : Int)) j p2) p3) (Eqv v) := fun l9 m9 k v p1 p2 p3 j h1 h2 h3 h4 => pu_tup (k := k) (h1.hi _ ho).1 h3 h4 (pu_name W h2.ns) pu_int (by intro _; with_unfolding_all rfl)
  have e1 : (its ++ [Value.ref tu]).length = its.length + 1 := by rw [List.length_append]; rfl
  refine go_expr W (ev_call3 W fact_all fact_all2 (pu_name W N1.nf) (pu_name W N1.nl) (st _ _ 2 _ _ _ _ _ H1 N1 rfl (by decide)) (PA W.toOk H1 hr1 hx ra (e1 ▸ zab) hda)) ?_
  rintro _ l2 ⟨va, nwa, n4, hr2, G2, R2⟩
  rw [e1] at R2
  have H2 := H1.grow G2
  have G12 := G1.trans G2
  have la := R2.length
  have e2 : (its ++ [Value.ref tu] ++ va).length = its.length + 1 + (comp (its.length + 1) ta).length := by rw [List.length_append, e1, la]
  have hyl := rb.length
  have hyz := Mine.T.len_le_size tb
  by_cases hb : tb = .nil
  · subst hb
    cases rb
    refine go_if_t (Ts.as (ts_int (op := .Eq) (a := ((List.length ([] : List Value) : Nat) : Int)) (b := 0) rfl (pu_len W (H2.hi _ hy).1 (by decide) (st _ _ 3 _ _ _ _ _ H2 N1 rfl (by decide))) pu_int) rfl) fun Q2 C => ?_
    refine go_rowset (i := its.length) rfl W N1.nf N1.nl H2 hr2 (by rw [e2]; exact Nat.lt_of_lt_of_le (Nat.lt_succ_self _) (Nat.le_add_right _ _)) (big_of za) (ev_ifnot (st _ _ 1 _ _ _ _ _ H2 N1 rfl (by decide)) (ln9 _ _ _ hr2 H2 (by rw [e2]; exact big_of zap) _ _ _ _ _ N1.nf)) (fun l' => pi_name W T1) ?_
    rintro D8 D9 tl l3 ⟨t1, t2, rfl⟩ G3 hr3
    refine go_ret0 (C.rt _ _ _ (hret _ _ _ (.mk (.ref D9 :: va) _ n4 ?_ (G12.trans G3) ?_)))
    · have : (its ++ [Value.ref tu] ++ va).set its.length (.ref D9) = its ++ (.ref D9 :: va) := by rw [List.append_assoc]; exact set_mid its va
      rwa [this] at hr3
    · rw [comp]
      refine .cons ⟨D9, D8, lt, t1, _, rfl, .head _, .tail _ (.head _), q, t2, k2, k3, by rw [e2], ?_⟩ ?_
      · exact List.mem_append_right _ hq
      · rw [comp, List.append_nil]
        refine R2.mono fun p hp => .tail _ (.tail _ ?_)
        exact (List.mem_append.mp hp).elim (fun h => List.mem_append_left _ (show p ∈ nwa ++ _ from List.mem_append_left _ h)) fun h => List.mem_append_right _ h
  · have hyn : ys.length ≠ 0 := fun e => hb (rep_nil rb e)
    refine go_skip (Ts.as (ts_int (op := .Eq) (a := ((ys.length : Nat) : Int)) (b := 0) rfl (pu_len W (H2.hi _ hy).1 (by rw [hyl]; exact big_of (Nat.lt_of_le_of_lt hyz zc)) (st _ _ 3 _ _ _ _ _ H2 N1 rfl (by decide))) pu_int) (beq_eq_false_iff_ne.mpr fun e => hyn (Int.ofNat.inj e))) ?_
    refine go_assign W (ev_call3 W fact_row fact_row2 (pu_name W N1.nf) (pu_name W N1.nl) (pu_name W N1.ns) (prow W.toOk H2.fl hr2 (by rw [e2]; exact zap) hd10 off)) ?_
    rintro _ l3 ⟨tv, n5, t3, rfl, hr3, _, G3⟩
    have H3 := H2.grow G3
    have N2 := N1.upd (x := Str.ofString "skip") (.int (((its ++ [Value.ref tu] ++ va).length : Nat) : Int) t3) (by decide +kernel) (by decide +kernel) (by decide +kernel)
    have T2 : upd m2 (Str.ofString "skip") (.int (((its ++ [Value.ref tu] ++ va).length : Nat) : Int) t3) (Str.ofString "test") = some (.int ((its.length : Nat) : Int) t0) := (if_neg (by decide +kernel)).trans T1
    have S2 : upd m2 (Str.ofString "skip") (.int (((its ++ [Value.ref tu] ++ va).length : Nat) : Int) t3) (Str.ofString "skip") = some (.int (((its ++ [Value.ref tu] ++ va).length : Nat) : Int) t3) := if_pos rfl
    generalize upd m2 (Str.ofString "skip") (.int (((its ++ [Value.ref tu] ++ va).length : Nat) : Int) t3) = m3 at N2 T2 S2 ⊢
    have e3 : (its ++ [Value.ref tu] ++ va ++ [Value.ref tv]).length = its.length + 2 + (comp (its.length + 1) ta).length := by rw [List.length_append, e2, List.length_singleton]; exact Nat.add_right_comm _ _ _
    refine go_rowset (i := its.length) rfl W N2.nf N2.nl H3 hr3 (by rw [e3]; exact Nat.lt_of_lt_of_le (Nat.lt_add_of_pos_right (by decide)) (Nat.le_add_right _ _)) (big_of za) (ev_ifnot (st _ _ 1 _ _ _ _ _ H3 N2 rfl (by decide)) (ln9 _ _ _ hr3 H3 (by rw [e3]; exact big_of zap2) _ _ _ _ _ N2.nf)) (fun l' => pi_name W T2) ?_
    rintro D8 D9 tl l4 ⟨t1, t2, rfl⟩ G4 hr4
    have H4 := H3.grow G4
    have s4 : (its ++ [Value.ref tu] ++ va ++ [Value.ref tv]).set its.length (.ref D9) = its ++ (.ref D9 :: (va ++ [Value.ref tv])) := by rw [List.append_assoc, List.append_assoc]; exact set_mid its _
    rw [s4] at hr4
    have e4 : (its ++ (Value.ref D9 :: (va ++ [Value.ref tv]))).length = its.length + 2 + (comp (its.length + 1) ta).length := by rw [← s4, List.length_set, e3]
    refine go_expr W (ev_call3 W fact_all fact_all2 (pu_name W N2.nf) (pu_name W N2.nl) (st _ _ 3 _ _ _ _ _ H4 N2 rfl (by decide)) (PB W.toOk H4 hr4 hy rb (by rw [e4]; exact zapc) hdb)) ?_
    rintro _ l5 ⟨vb, nwb, n6, hr5, G5, R5⟩
    have H5 := H4.grow G5
    rw [e4] at R5
    have lc := R5.length
    have e5 : (its ++ (Value.ref D9 :: (va ++ [Value.ref tv])) ++ vb).length = its.length + 2 + (comp (its.length + 1) ta).length + (comp (its.length + 2 + (comp (its.length + 1) ta).length) tb).length := by rw [List.length_append, e4, lc]
    refine go_rowset (i := (its ++ [Value.ref tu] ++ va).length) rfl W N2.nf N2.nl H5 hr5 (by rw [e2, e5]; exact zlt) (by rw [e2]; exact big_of zap) (ev_jump (ln9 _ _ _ hr5 H5 (by rw [e5]; exact big_of zapq) _ _ _ _ _ N2.nf)) (fun l' => pi_name W S2) ?_
    rintro D10 D11 tl l6 ⟨t4, t5, rfl⟩ G6 hr6
    refine go_nil (hret2 _ _ (.mk (.ref D9 :: (va ++ .ref D11 :: vb)) _ n6 ?_ ((((G12.trans G3).trans G4).trans G5).trans G6) ?_))
    · have z1 : its ++ Value.ref D9 :: (va ++ [Value.ref tv]) ++ vb = (its ++ Value.ref D9 :: va) ++ Value.ref tv :: vb := by simp
      have z2 : (its ++ [Value.ref tu] ++ va).length = (its ++ Value.ref D9 :: va).length := by simp
      rw [z1, z2, set_mid, List.append_assoc] at hr6
      exact hr6
    · rw [comp_ite hb]
      have up : ∀ p ∈ nwa ++ im, p ∈ [(D11, tupO [.int line lt, .ref D10]), (D10, tupO [.str (Str.ofString "JUMP") t4, .int (((its ++ (Value.ref D9 :: (va ++ [Value.ref tv])) ++ vb).length : Nat) : Int) t5])] ++ (nwb ++ ([(D9, tupO [.int line lt, .ref D8]), (D8, tupO [.str (Str.ofString "IFNOT") t1, .ref q, .int (((its ++ [Value.ref tu] ++ va ++ [Value.ref tv]).length : Nat) : Int) t2])] ++ ([(tv, tupO [.int line lt, .ref o])] ++ (nwa ++ [(tu, tupO [.int line lt, .ref o])])))) ++ im := fun p hp => (List.mem_append.mp hp).elim (fun h => List.mem_append_left _ (List.mem_append_right _ (List.mem_append_right _ (List.mem_append_right _ (List.mem_append_right _ (List.mem_append_left _ h)))))) fun h => List.mem_append_right _ h
      have d9 : ∀ {X : Led} {p : Addr × Obj}, p ∈ [(D9, tupO [.int line lt, .ref D8]), (D8, tupO [.str (Str.ofString "IFNOT") t1, .ref q, .int (((its ++ [Value.ref tu] ++ va ++ [Value.ref tv]).length : Nat) : Int) t2])] → p ∈ [(D11, tupO [.int line lt, .ref D10]), (D10, tupO [.str (Str.ofString "JUMP") t4, .int (((its ++ (Value.ref D9 :: (va ++ [Value.ref tv])) ++ vb).length : Nat) : Int) t5])] ++ (nwb ++ ([(D9, tupO [.int line lt, .ref D8]), (D8, tupO [.str (Str.ofString "IFNOT") t1, .ref q, .int (((its ++ [Value.ref tu] ++ va ++ [Value.ref tv]).length : Nat) : Int) t2])] ++ X)) ++ im := fun h => List.mem_append_left _ (List.mem_append_right _ (List.mem_append_right _ (List.mem_append_left _ h)))
      refine .cons ⟨D9, D8, lt, t1, _, rfl, d9 (.head _), d9 (.tail _ (.head _)), q, t2, k2, k3, by rw [e3], List.mem_append_right _ hq⟩ (.append (R2.mono up) (.cons ⟨D11, D10, lt, t4, _, rfl, .head _, .tail _ (.head _), t5, by rw [e5]⟩ ?_))
      rw [comp, List.append_nil]
      exact R5.mono fun p hp => (List.mem_append.mp hp).elim (fun h => List.mem_append_left _ (List.mem_append_right _ (List.mem_append_left _ h))) fun h => List.mem_append_right _ h
inductive PaJ (f : FA) (l im : Led) (its : List Value) (line : Int) (lt : Tok) (t : T) (r : List Value) (m : Nm) (l1 : Led) : Prop
  | mk (t' : T) (vals : List Value) (nw : Led) (n1 : Nat) (cp : List RK) (nf : m (Str.ofString "flat") = some (.ref f.o)) (nl : m (Str.ofString "line") = some (.int line lt)) (hr : (f.rows, lstO (its ++ vals) n1) ∈ l1) (g : Grow f.rows l nw l1) (hR : RepT im r t') (V : RowsAt (nw ++ im) line vals cp)
      (e : comp its.length t = cp ++ comp (its.length + vals.length) t') (z : vals.length + t'.size ≤ t.size) (y : t'.hgt ≤ t.hgt)
theorem Grow.nil {a : Addr} {o : Obj} {l : Led} (h : (a, o) ∈ l) : Grow a l [] l := ⟨fun _ h _ => h, (fun _ h => nomatch h), ⟨o, h⟩, ⟨o, h⟩⟩
set_option maxRecDepth 100000 in
set_option maxHeartbeats 4000000 in
theorem pall_step {t : T} (IH : ∀ u : T, u.size < t.size → PutA prog w u) : PutA prog w t := by
  intro c sc m l im f its xs n nq line lt q W H hr hq rt hsz hdp
  refine' tr_def (binds := [(Str.ofString "flat", .ref f.o), (Str.ofString "line", .int line lt), (Str.ofString "statements", .ref q)]) W ?ho ?hcd ?hr ?hb ?hl ?h1 ?h2 ?h3 ?h4 ?_
  (case ho => k_is)
  (case hcd => k_is)
  (case hr => exact Nat.lt_of_le_of_lt (Nat.le_trans (Nat.le_add_right _ _) (Nat.le_add_right _ _)) hdp)
  (case hb => exact rfl)
  (case hl => exact locs rfl)
  (case h1 => exact rfl)
  (case h2 => exact rfl)
  (case h3 => exact rfl)
  (case h4 => decide)
  clear W
  intro c' Q W hd9 _ _ hret
  have off : f.o ≠ f.rows ∧ f.d ≠ f.rows := ⟨(H.hi _ H.hf.o).2, (H.hi _ H.hf.d).2⟩
  refine go_forL W (PaJ f l im its line lt t) (items := xs) (k9 := nq) (pu_name W rfl) (.mk t [] [] n [] rfl rfl (by rw [List.append_nil]; exact hr) (.nil hr) rt .nil rfl (by rw [List.length_nil, Nat.zero_add]; exact Nat.le_refl _) (Nat.le_refl _)) (fun r m1 l1 ⟨_, _, _, _, _, _, _, _, g, _, _, _, _, _⟩ => (H.grow g).hi _ hq |>.1) ?_ ?_
  · rintro v r m1 l1 I o Q' ⟨t', vals, nw, n1, cp, nf, nl, hr1, g, hR, V, e1, z1, y1⟩ off9 T9
    have H1 := H.grow g
    have H2 : PutH w.params f im ((I, o) :: l1) := ⟨H1.hf, fun p h => ⟨.tail _ (H1.hi p h).1, (H1.hi p h).2⟩⟩
    have hr2 : (f.rows, lstO (its ++ vals) n1) ∈ (I, o) :: l1 := .tail _ hr1
    have la : (its ++ vals).length = its.length + vals.length := List.length_append
    refine gt_name W ?_
    have nf2 : upd m1 (Str.ofString "statement") v (Str.ofString "flat") = some (.ref f.o) := (if_neg (by decide +kernel)).trans nf
    have nl2 : upd m1 (Str.ofString "statement") v (Str.ofString "line") = some (.int line lt) := (if_neg (by decide +kernel)).trans nl
    have ns2 : upd m1 (Str.ofString "statement") v (Str.ofString "statement") = some v := if_pos rfl
    generalize upd m1 (Str.ofString "statement") v = m2 at nf2 nl2 ns2 ⊢
    cases hR with
    | @leaf _ lf _ r' hv hr1' =>
      obtain ⟨b, kb, tail, rfl, hb, htl⟩ := id hv
      simp only [T.size] at z1
      refine go_if_f (Ts.as (ts_eqs (ps_tup (k := 0) (H2.hi _ hb).1 rfl (by decide) (pu_name W ns2) pu_int) pu_str) (word_ne_IF lf)) fun Q2 C => ?_
      refine go_expr W (ev_call3 W fact_row fact_row2 (pu_name W nf2) (pu_name W nl2) (pu_name W ns2) (prow W.toOk H2.fl hr2 (by rw [la]; exact pal_num1 hsz z1) (dp_le hdp (by omega)) off)) ?_
      rintro _ l2 ⟨tu, n2, t0, rfl, hr3, _, g2⟩
      obtain ⟨g3, hI⟩ := g.turn g2 off9
      refine go_nil (C.nx _ _ (turnE T9 (l' := without I l2) (fun p h => (mem_without.mp h).2) (.mk r' (vals ++ [.ref tu]) _ n2 (cp ++ [.leaf (.ref b) lf]) nf2 nl2 (mem_without.mpr ⟨by rw [← List.append_assoc]; exact hr3, off9 (f.rows, lstO (its ++ vals) n1) hr1⟩) g3 hr1' ((V.mono fun p h => .tail _ h).append (.cons (show RowAt _ line (.ref tu) (.leaf (.ref b) lf) from ⟨tu, b, lt, kb, tail, rfl, .head _, .tail _ (List.mem_append_right _ hb), rfl, Lf.tl_mono (fun p h => .tail _ (List.mem_append_right _ h)) htl⟩) .nil)) ?_ ?_ ?_) fun p h => (List.mem_cons.mp h).elim (fun e => e ▸ hI) fun h => (mem_without.mp h).1))
      · rw [e1, comp, List.length_append, List.append_assoc]; rfl
      · rw [List.length_append, List.length_singleton]; exact Nat.le_trans (Nat.le_of_eq (by rw [Nat.add_assoc, Nat.add_comm 1])) z1
      · exact y1
    | @ite o1 q1 x1 y2 k1 k2 k3 mk m1' m2' xs1 ys1 _ ta tb r' h1 h2 h3 h4 h5 h6 h7 =>
      simp only [T.size] at z1
      simp only [T.hgt] at y1
      refine go_if_t (Ts.as (ts_eqs (ps_tup (k := 0) (H2.hi _ h1).1 rfl (by decide) (pu_name W ns2) pu_int) pu_str) (beq_self_eq_true _)) fun Q2 C => ?_
      refine go_expr W (ev_call3 W fact_if fact_if2 (pu_name W nf2) (pu_name W nl2) (pu_name W ns2) (pif (IH ta (pal_num z1 hsz).1) (IH tb (pal_num z1 hsz).2.1) W.toOk H2 hr2 h1 h2 h3 h4 h5 h6 (by rw [la]; exact (pal_num z1 hsz).2.2) (pal_dp hd9 (Nat.le_trans y1 (Nat.le_refl _)) hdp))) ?_
      rintro _ l2 ⟨va, nwa, n2, hr3, g2, R2⟩
      rw [la] at R2
      obtain ⟨g3, hI⟩ := g.turn g2 off9
      have lv := R2.length
      have lz := comp_length_le (.ite (.ref o1) mk ta tb .nil) (its.length + vals.length)
      simp only [T.size] at lz
      refine go_nil (C.nx _ _ (turnE T9 (l' := without I l2) (fun p h => (mem_without.mp h).2) (.mk r' (vals ++ va) _ n2 (cp ++ comp (its.length + vals.length) (.ite (.ref o1) mk ta tb .nil)) nf2 nl2 (mem_without.mpr ⟨by rw [← List.append_assoc]; exact hr3, off9 (f.rows, lstO (its ++ vals) n1) hr1⟩) g3 h7 ((V.mono fun p h => (List.mem_append.mp h).elim (fun h => List.mem_append_left _ (List.mem_append_right _ h)) fun h => List.mem_append_right _ h).append (R2.mono fun p h => (List.mem_append.mp h).elim (fun h => List.mem_append_left _ (List.mem_append_left _ h)) fun h => List.mem_append_right _ h)) ?_ ?_ ?_) fun p h => (List.mem_cons.mp h).elim (fun e => e ▸ hI) fun h => (mem_without.mp h).1))
      · rw [e1, comp_ite_app, List.append_assoc, List.length_append, lv, Nat.add_assoc]
      · rw [List.length_append, lv]; exact pal_num2 z1 lz
      · exact Nat.le_trans (Nat.le_max_right _ _) y1
  · rintro m1 l1 ⟨t', vals, nw, n1, cp, nf, nl, hr1, g, hR, V, e1, z1, y1⟩
    cases hR
    rw [comp, List.append_nil] at e1
    exact go_nil (hret _ _ (.mk vals nw n1 hr1 g (e1 ▸ V)))
theorem pall (prog : Program) (w : World) : ∀ t : T, PutA prog w t := by
  have all : ∀ n, ∀ t : T, t.size < n → PutA prog w t := by
    intro n
    induction n with
    | zero => intro t h; exact absurd h (Nat.not_lt_zero _)
    | succ n ih => exact fun t h => pall_step fun u hu => ih u (Nat.lt_of_lt_of_le hu (Nat.le_of_lt_succ h))
  exact fun t => all _ t (Nat.lt_succ_self _)
end
noncomputable def come (ans : Nat → Bool) : T → List Value
  | .nil => []
  | .leaf v _ r => v :: come ans r
  | .ite _ mk a b r => (if ans mk then come ans a else come ans b) ++ come ans r
theorem come_len (ans : Nat → Bool) : ∀ t : T, (come ans t).length ≤ t.size
  | .nil => Nat.le_refl _
  | .leaf _ _ r => by have := come_len ans r; simp only [come, T.size, List.length_cons]; omega
  | .ite _ mk a b r => by
    have h1 := come_len ans a
    have h2 := come_len ans b
    have h3 := come_len ans r
    simp only [come, T.size, List.length_append]
    split <;> omega
noncomputable def AnsIn (l : Led) (an : Addr) (ans : Nat → Bool) (N : Nat) : Prop := ∃ av n, (an, lstO av n) ∈ l ∧ av.length < 100000 ∧ N ≤ av.length ∧ ∀ i, i < av.length → av[i]? = some (.bool (ans i))
theorem AnsIn.mono {l l' : Led} {an : Addr} {ans : Nat → Bool} {N : Nat} (h : AnsIn l an ans N) (hs : ∀ p ∈ l, p ∈ l') : AnsIn l' an ans N := let ⟨av, n, a, b, c, d⟩ := h; ⟨av, n, hs _ a, b, c, d⟩
noncomputable abbrev NewL (l : Led) (its : List Value) : Value → Led → Prop := fun v l' => ∃ D k, v = .ref D ∧ l' = (D, lstO its k) :: l ∧ AllLt D l
noncomputable def Come (prog : Program) (w : World) (ans : Nat → Bool) (t : T) : Prop := ∀ {c : Wc prog w} {sc : Scope} {m : Nm} {l : Led} {q an : Addr} {xs : List Value} {nq N : Nat}, c.Ok sc → (q, lstO xs nq) ∈ l → AnsIn l an ans (N + 1) → RepT l xs t → OkT N t → t.size < 100000 → c.dp + t.hgt + 1 < recursionLimit →
  Tr c m l (call (.ref 170) [.ref q, .ref an]) (NewL l (come ans t))
theorem fact_come : ∀ P, nsIn (Mine.K P) mainGlobals (Str.ofString "_law_come_to") = some (some (.ref 170)) := fun P => by k_is
theorem fact_come2 : ∀ P, keepIn (Mine.K P) (.ref 170) = true := fun P => by k_is
theorem lim_sub {d d' e k j lim : Nat} (h : d' = d + e) (h2 : d + k < lim) (hj : e + j ≤ k) : d' + j < lim := Nat.lt_of_le_of_lt (by rw [h, Nat.add_assoc]; exact Nat.add_le_add_left hj _) h2
theorem pre_len {a b c : List Value} {n : Nat} (h : a ++ b = c) (hc : c.length ≤ n) (hn : n < 100000) : a.length < 1000000 := Nat.lt_of_le_of_lt (Nat.le_trans (by rw [← h, List.length_append]; exact Nat.le_add_right _ _) hc) (big_of hn)
theorem come_num {x y r s : Nat} (h : x + y + r + 2 ≤ s) : x < s ∧ y < s ∧ r ≤ s := by omega
theorem come_dp {d d' x y : Nat} (e : d' = d + 1) (hx : x + 1 ≤ y) (h : d + y + 1 < recursionLimit) : d' + x + 1 < recursionLimit := by omega
inductive CmJ (ans : Nat → Bool) (t : T) (an : Addr) (N : Nat) (l : Led) (r : List Value) (m : Nm) (l1 : Led) : Prop
  | mk (F : Addr) (acc : List Value) (k : Nat) (t' : T) (ma : m (Str.ofString "answers") = some (.ref an)) (mf : m (Str.ofString "found") = some (.ref F)) (e : l1 = (F, lstO acc k) :: l) (hF : AllLt F l) (hr : RepT l r t') (hO : OkT N t') (he : acc ++ come ans t' = come ans t) (hs : t'.size ≤ t.size) (hh : t'.hgt ≤ t.hgt)
section
variable {prog : Program} {w : World}
set_option maxRecDepth 100000 in
theorem come_step {ans : Nat → Bool} {t : T} (IH : ∀ u : T, u.size < t.size → Come prog w ans u) : Come prog w ans t := by
  intro c sc m l q an xs nq N W hq hA hR hO hsz hdp
  refine' tr_def (binds := [(Str.ofString "statements", .ref q), (Str.ofString "answers", .ref an)]) W ?ho ?hcd ?hr ?hb ?hl ?h1 ?h2 ?h3 ?h4 ?_
  (case ho => k_is)
  (case hcd => k_is)
  (case hr => exact Nat.lt_of_le_of_lt (Nat.le_trans (Nat.le_add_right _ _) (Nat.le_add_right _ _)) hdp)
  (case hb => exact rfl)
  (case hl => exact locs rfl)
  (case h1 => exact rfl)
  (case h2 => exact rfl)
  (case h3 => exact rfl)
  (case h4 => decide)
  clear W
  intro c' Q W hd hu hret _
  refine go_assign W ev_nil ?_
  rintro _ _ ⟨F, rfl, rfl, hF⟩
  refine go_forL W (items := xs) (k9 := nq) (CmJ ans t an N l) (pu_name W rfl) (.mk F [] 0 t rfl rfl rfl hF hR hO rfl (Nat.le_refl _) (Nat.le_refl _)) ?_ ?_ ?_
  · rintro r m1 l1 ⟨F, acc, k, t', _, _, rfl, _⟩
    exact .tail _ hq
  · rintro v r m1 l1 I o Q' ⟨F, acc, k, t', ma, mf, rfl, hF, hr1, hO1, he, hs1, hh1⟩ hI T9
    refine gt_name W ?_
    have sub : ∀ p ∈ l, p ∈ (I, o) :: (F, lstO acc k) :: l := fun p h => .tail _ (.tail _ h)
    have offl : ∀ p ∈ l, p.1 ≠ I := fun p h => hI p (.tail _ h)
    cases hr1 with
    | leaf hv hr2 =>
      rename_i lf t'
      obtain ⟨a9, k9, tl, rfl, hb, _⟩ := id hv
      refine go_if_f ((ts_eqs (pu_tup (k := 0) (sub _ hb) rfl (by decide) (pu_name W rfl) pu_int).str pu_str).as (word_ne_IF lf)) fun Q2 C => ?_
      refine go_append W (.tail _ (.head _)) (pu_name W mf) (pu_name W rfl) ?_
      rintro _ _ ⟨rfl, rfl⟩
      have hl : acc.length < 1000000 := pre_len he (come_len ans t) hsz
      refine ⟨acc, k, _, _, fun _ h => h, .tail (Ne.symm (hI _ (.head _))) (.head (fun p h => Nat.ne_of_lt (allLt_iff.mp hF p h))), hl, ?_⟩
      refine go_nil (C.nx _ _ (turnE T9 (l' := (F, lstO (acc ++ [.ref a9]) (k + 1)) :: l) (List.forall_mem_cons.mpr ⟨hI (F, lstO acc k) (.head _), offl⟩) ?_ fun _ h => h))
      simp only [T.size, T.hgt] at hs1 hh1
      exact ⟨F, _, _, t', ma, mf, rfl, hF, hr2, hO1.2, by rw [← he, come, List.append_assoc]; rfl, Nat.le_of_succ_le hs1, hh1⟩
    | ite h1 h2 h3 h4 h5 h6 h7 =>
      rename_i o1 q1 x1 y1 k1 k2 k3 mk n1 n2 xs1 ys1 ta tb r'
      simp only [T.size, T.hgt] at hs1 hh1
      obtain ⟨hO2, hO3, hO4, hO5⟩ := hO1
      obtain ⟨av, na, ha1, ha2, ha3, ha4⟩ := id hA
      refine go_if_t ((ts_eqs (pu_tup (k := 0) (sub _ h1) rfl (by decide) (pu_name W rfl) pu_int).str pu_str).as (by decide)) fun Q2 C => ?_
      have sel : ∃ z zs nz tz, (∀ pos e2 e3 test, Ts c' (upd m1 (Str.ofString "statement") (.ref o1)) ((I, o) :: (F, lstO acc k) :: l) test (ans mk) → Pu c' (upd m1 (Str.ofString "statement") (.ref o1)) ((I, o) :: (F, lstO acc k) :: l) e2 (Eqv (.ref x1)) → Pu c' (upd m1 (Str.ofString "statement") (.ref o1)) ((I, o) :: (F, lstO acc k) :: l) e3 (Eqv (.ref y1)) → Pu c' (upd m1 (Str.ofString "statement") (.ref o1)) ((I, o) :: (F, lstO acc k) :: l) (.IfExp test e2 e3 pos) (Eqv (.ref z))) ∧
          (z, lstO zs nz) ∈ l ∧ RepT l zs tz ∧ OkT N tz ∧ tz.size < t.size ∧ tz.hgt + 1 ≤ t.hgt ∧ come ans (.ite (.ref o1) mk ta tb r') = come ans tz ++ come ans r' := by
        cases hm : ans mk with
        | true => exact ⟨x1, xs1, n1, ta, fun _ _ _ _ ht h2 _ => ev_if_t ht h2, h3, h5, hO3, (come_num hs1).1, Nat.le_trans (Nat.succ_le_succ (Nat.le_max_left _ _)) (Nat.le_trans (Nat.le_max_left _ _) hh1), by rw [come, hm, if_pos rfl]⟩
        | false => exact ⟨y1, ys1, n2, tb, fun _ _ _ _ ht _ h3 => ev_if_f ht h3, h4, h6, hO4, (come_num hs1).2.1, Nat.le_trans (Nat.succ_le_succ (Nat.le_max_right _ _)) (Nat.le_trans (Nat.le_max_left _ _) hh1), by rw [come, hm]; rfl⟩
      obtain ⟨z, zs, nz, tz, hz, hzm, hzr, hzO, hzs, hzh, hzc⟩ := sel
      rw [hzc, ← List.append_assoc] at he
      have hl : acc.length + (come ans tz).length < 1000000 := List.length_append ▸ pre_len he (come_len ans t) hsz
      have hma := Nat.lt_of_lt_of_le (Nat.lt_succ_of_le hO2) ha3
      refine go_assign W (ev_addL (xs := acc) (n1 := k) (P2 := NewL ((I, o) :: (F, lstO acc k) :: l) (come ans tz)) (P := fun v l' => ∃ D D2, v = .ref D ∧ l' = (D, lstO (acc ++ come ans tz) 0) :: D2 :: (I, o) :: (F, lstO acc k) :: l ∧ AllLt D (D2 :: (I, o) :: (F, lstO acc k) :: l)) (pu_name W mf) (ev_call W fact_come fact_come2 (ar_cons (hz _ _ _ _ (ts_val (pu_item (sub _ ha1) (a := (mk : Int)) (Int.natCast_nonneg _) (by rw [Int.toNat_natCast]; exact ha4 mk hma) (Int.ofNat_lt.mpr (Nat.lt_trans hma (big_of ha2))) (pu_name W ma) (pu_tup (k := 1) (sub _ h2) rfl (by decide) (pu_tup (k := 1) (sub _ h1) rfl (by decide) (pu_name W rfl) pu_int) pu_int).int)) (pu_tup (k := 2) (sub _ h1) rfl (by decide) (pu_name W rfl) pu_int) (pu_tup (k := 3) (sub _ h1) rfl (by decide) (pu_name W rfl) pu_int)) ?_) (C := fun vs l' => vs = [.ref z, .ref an] ∧ l' = (I, o) :: (F, lstO acc k) :: l) ?_) ?_) ?_
      · rintro _ _ ⟨rfl, rfl⟩
        refine ar_cons (pu_name W ma) ?_
        rintro _ _ ⟨rfl, rfl⟩
        exact ar_nil ⟨rfl, rfl⟩
      · rintro _ _ ⟨rfl, rfl⟩
        exact IH tz hzs W.toOk (sub _ hzm) (hA.mono sub) (hzr.mono sub) hzO (Nat.lt_trans hzs hsz) (come_dp hd hzh hdp)
      · rintro _ _ ⟨D, kD, rfl, rfl, hD⟩
        exact ⟨D, _, kD, rfl, .tail _ (.tail _ (.head _)), .head _, hl, fun D' hD' => ⟨D', _, rfl, rfl, hD'⟩⟩
      · rintro _ _ ⟨D, D2, rfl, rfl, hD⟩
        refine go_nil (C.nx _ _ (turnE T9 (l' := (D, lstO (acc ++ come ans tz) 0) :: l) (List.forall_mem_cons.mpr ⟨?_, offl⟩) ?_ ?_))
        · exact Nat.ne_of_gt hD.2.1
        · exact ⟨D, _, _, r', ma, rfl, rfl, hD.2.2.2, h7, hO5, he, (come_num hs1).2.2, Nat.le_trans (Nat.le_max_right _ _) hh1⟩
        · exact List.forall_mem_cons.mpr ⟨.tail _ (.tail _ (.head _)), List.forall_mem_cons.mpr ⟨.head _, fun p h => .tail _ (.tail _ (.tail _ (.tail _ h)))⟩⟩
  · rintro m1 l1 ⟨F, acc, k, t', ma, mf, rfl, hF, hr1, hO1, he, _⟩
    cases hr1
    rw [come, List.append_nil] at he
    refine go_ret (pu_name W mf) ?_
    rintro _ _ ⟨rfl, rfl⟩
    exact hret _ _ _ ⟨F, k, rfl, by rw [he], hF⟩
end
theorem come_call (prog : Program) (w : World) (ans : Nat → Bool) : ∀ t : T, Come prog w ans t := by
  have all : ∀ n, ∀ t : T, t.size < n → Come prog w ans t := by
    intro n
    induction n with
    | zero => intro t h; exact absurd h (Nat.not_lt_zero _)
    | succ n ih => exact fun t h => come_step fun u hu => ih u (Nat.lt_of_lt_of_le hu (Nat.le_of_lt_succ h))
  exact fun t => all _ t (Nat.lt_succ_self _)
structure Up (l nw l' : Led) : Prop where
  s : ∀ p ∈ l, p ∈ l'
  n : ∀ p ∈ nw, p ∈ l' ∧ ∀ x ∈ l, p.1 ≠ x.1
theorem Up.nil {l l' : Led} (h : ∀ p ∈ l, p ∈ l') : Up l [] l' := ⟨h, (fun _ h => nomatch h)⟩
theorem Up.new {D : Addr} {x : Obj} {l nw l1 : Led} (g : Up l nw l1) (hD : AllLt D l1) : Up l ((D, x) :: nw) ((D, x) :: l1) := ⟨fun p h => .tail _ (g.s p h), List.forall_mem_cons.mpr ⟨⟨.head _, fun y hy => Nat.ne_of_gt (allLt_iff.mp hD y (g.s y hy))⟩, fun p h => ⟨.tail _ (g.n p h).1, (g.n p h).2⟩⟩⟩
inductive NwR (F : Led → Value → Prop) (l : Led) (v : Value) (l' : Led) : Prop
  | mk (nw : Led) (g : Up l nw l') (h : F nw v)
theorem NwR.to {F : Led → Value → Prop} {l l1 l2 l3 : Led} {v : Value} (h : NwR F l1 v l2) (h1 : ∀ p ∈ l, p ∈ l1) (h2 : ∀ p ∈ l2, p ∈ l3) : NwR F l v l3 := let ⟨nw, g, h⟩ := h; .mk nw ⟨fun p h => h2 p (g.s p (h1 p h)), fun p h => ⟨h2 p (g.n p h).1, fun x hx => (g.n p h).2 x (h1 x hx)⟩⟩ h
noncomputable def LfF (nw : Led) (v : Value) : Prop := ∃ lf : Lf, LeafAt nw v lf ∧ lf.nx ≤ 2
noncomputable def NxF (nw : Led) (v : Value) : Prop := ∃ b items, v = .ref b ∧ (b, lstO items 0) ∈ nw ∧ items.length ≤ 2
inductive LfTl (x : Str) (l : Led) (vs : List Value) (l' : Led) : Prop
  | mk (nw : Led) (lf : Lf) (hw : x = lf.word) (hx : lf.nx ≤ 2) (g : Up l nw l') (ht : lf.tl nw vs) (hz : vs.length < 9)
noncomputable abbrev Sup (l : Led) : Value → Led → Prop := fun _ l' => ∀ p ∈ l, p ∈ l'
noncomputable abbrev SupA (k : Nat) (l : Led) : List Value → Led → Prop := fun vs l' => vs.length = k ∧ ∀ p ∈ l, p ∈ l'
noncomputable abbrev Lfs (F : Led → Value → Prop) (k : Nat) (l : Led) : List Value → Led → Prop := fun vs l' => vs.length = k ∧ (∀ p ∈ l, p ∈ l') ∧ ∀ v ∈ vs, NwR F l v l'
theorem fact_strT : bootBuiltins (Str.ofString "str") = some (.type "str") := by boot_fast
theorem fact_strT0 : ∀ P, nsIn (Mine.K P) mainGlobals (Str.ofString "str") = some none := fun P => by k_is
section
variable {prog : Program} {w : World} {c : Wc prog w} {sc : Scope} {m : Nm} {l l' : Led} {e e1 e2 : Expr} {es : List Expr} {pos pos' np : Pos} {x y : Str} {k kk : Nat} {P P1 : Value → Led → Prop} {R : Value → Prop} {F : Led → Value → Prop}
theorem ev_tcall1 {T : String} (hn : Pu c m l (.Name x np) (Eqv (.type T))) (he : Ev c m l e P1) (k : ∀ v l', P1 v l' → Tr c m l' (call (.type T) [v]) P) (hs : starEach [e] c.env = [(false, eval e c.env)] := by rfl) : Ev c m l (.Call (.Name x np) [e] [] pos) P := .mk fun h0 tk Q E H kk => by
  refine PyProof.Rows.Call_ (hn.run h0 tk _ E H ?_)
  rintro _ _ h1 tk1 ⟨rfl, rfl⟩ H1
  refine PyProof.Rows.callWith_type1 (PyProof.Rows.args_cons (he.run h1 tk1 _ E H1 ?_) hs) hs rfl
  intro v l' h' tk' p H'
  exact PyProof.Rows.args_nil ((k v l' p).run h' tk' Q E H' kk)
theorem ev_itemL (h1 : Ev c m l e1 P1) (h2 : ∀ v l', P1 v l' → ∃ (D : Addr) (vs : List Value) (n j : Nat) (r : Value), v = .ref D ∧ (D, lstO vs n) ∈ l' ∧ j < 1000 ∧ vs[j]? = some r ∧ Pu c m l' e2 (IntV (j : Int)) ∧ P r l') (hs : ∀ D a t, subscripted e2 false (.ref D) (.int a t) = operate [.ref D, .int a t] (getItem (.ref D) (.int a t)) := by intro _ _ _; with_unfolding_all rfl) : Ev c m l (.Subscript e1 e2 pos) P := .mk fun h tk Q E H k => by
  refine PyProof.Rows.Subscript_ (h1.run h tk _ E H ?_)
  intro v l' h' tk' p H'
  obtain ⟨D, vs, n, j, r, rfl, hm, hj, hx, hi, hp⟩ := h2 v l' p
  refine hi.run h' tk' _ E H' ?_
  rintro _ _ h2 tk2 ⟨⟨t, rfl⟩, rfl⟩ H2
  exact kba_turn (value' := .Name (Str.ofString "x") pos) (fun _ => rfl) (item_listL ⟨_, (H2.N _ hm).1, rfl, n, rfl⟩ (Int.natCast_nonneg _) (Int.lt_trans (Int.ofNat_lt.mpr hj) (by decide : ((1000 : Nat) : Int) < 2 ^ 63)) (by rw [Int.toNat_natCast]; exact hx) (k _ _ _ _ hp H2) (hs D _ t))
theorem pu_addS (h1 : Pu c m l e1 (StV x)) (h2 : Pu c m l e2 (StV y)) (hz : x.length + y.length ≤ sizeLine) : Pu c m l (.BinOp e1 .Add e2 pos) (StV (x ++ y)) := .mk fun h tk Q E H k => by
  refine wpAny_BinOp (h1.run h tk _ E H ?_)
  rintro _ _ h' tk' ⟨⟨t, rfl⟩, rfl⟩ H'
  refine h2.run h' tk' _ E H' ?_
  rintro _ _ h2 tk2 ⟨⟨u, rfl⟩, rfl⟩ H2
  exact SB.add (fun _ _ => k _ _ _ _ ⟨⟨_, rfl⟩, rfl⟩ H2) hz
theorem pu_char {k9 : Nat} {j : Nat} (hj : (Txt.charAt x j).isSome = true) (h9 : fitsSsize (j : Int) = true) (h2 : Pu c m l e2 (IntV (j : Int))) (hs : ∀ t a u, subscripted e2 false (.str x t) (.int a u) = operate [.str x t, .int a u] (getItem (.str x t) (.int a u)) := by intro _ _ _; with_unfolding_all rfl) : Pu c m l (.Subscript (.Constant (.str x) k9 np) e2 pos) (StV (Txt.item x j)) := .mk fun h tk Q E H k => by
  refine PyProof.Rows.Subscript_ (pu_str.run h tk _ E H ?_)
  rintro _ _ h' tk' ⟨⟨t, rfl⟩, rfl⟩ H'
  refine h2.run h' tk' _ E H' ?_
  rintro _ _ h2 tk2 ⟨⟨u, rfl⟩, rfl⟩ H2
  exact PyProof.Rows.subscriptTail_builtin (typeIs_str _ _ _) F.slot_str_getitem.lookup (SB.getItem h9 hj (k _ _ _ _ ⟨⟨_, rfl⟩, rfl⟩ H2)) (hs _ _ _) (fun _ => rfl)
theorem tr_str {n : Nat} {t : Tok} (hn : n < 1000) : Tr c m l (call (.type "str") [.int (n : Int) t]) (Is (StV (toString (n : Int))) l) := .mk fun h0 tk Q E H kk => PyProof.Rows.str_of_int_fit (N := 1000) (by split <;> omega) (by decide) fun _ => kk _ _ _ _ ⟨⟨_, rfl⟩, rfl⟩ H
theorem Pu.sup (h : Pu c m l e R) : Ev c m l e (Sup l) := h.mono fun _ _ p q hq => p.2 ▸ hq
theorem ar_sup0 : Ar c m l [] pos (SupA 0 l) := ar_nil ⟨rfl, fun _ h => h⟩
theorem ar_sup (h1 : Ev c m l e (Sup l)) (h2 : ∀ l', Ar c m l' es pos (SupA k l')) (hs : starEach (e :: es) c.env = (false, eval e c.env) :: starEach es c.env := by rfl) : Ar c m l (e :: es) pos (SupA (k + 1) l) := ar_cons h1 (fun v l' p => (h2 l').mono fun vs l'' q => ⟨congrArg Nat.succ q.1, fun x hx => q.2 x (p x hx)⟩) hs
theorem ev_supT (h : Ar c m l es pos (SupA k l)) (hk : k < 9 := by decide) : Ev c m l (.Tuple es kk pos) (Sup l) := ev_tup h fun vs l' p => ⟨Nat.le_trans (m := 9) (Nat.le_of_lt (p.1 ▸ hk)) (Nat.le_of_ble_eq_true rfl), fun D _ q hq => .tail _ (p.2 q hq)⟩
theorem ev_supN : Ev c m l (.List [] pos) (Sup l) := ev_nil.mono fun _ _ ⟨_, _, e, _⟩ q hq => e ▸ .tail _ hq
theorem ev_supO : Ev c m l (.Constant .none kk np) (Sup l) := .mk fun h0 tk Q E H kk => wpAny_Constant_none (kk _ _ _ _ (fun _ h => h) H)
theorem SupA.lf {vs : List Value} {lf : Lf} (h : SupA k l vs l') (hw : x = lf.word) (hx : lf.nx ≤ 2) (ht : lf.tl [] vs) (hz : k < 9 := by decide) : LfTl x l vs l' := .mk [] lf hw hx (.nil h.2) ht (h.1 ▸ hz)
theorem ev_leaf {k9 : Nat} (h : Ar c m l es pos (LfTl x l)) (hs : starEach (.Constant (.str x) k9 np :: es) c.env = (false, eval (.Constant (.str x) k9 np) c.env) :: starEach es c.env := by rfl) : Ev c m l (.Tuple (.Constant (.str x) k9 np :: es) kk pos) (NwR LfF l) := by
  refine ev_tup (P1 := fun vs l' => ∃ t r, vs = .str x t :: r ∧ LfTl x l r l') (ar_cons pu_str ?_ hs) ?_
  · rintro _ _ ⟨⟨t, rfl⟩, rfl⟩
    exact h.mono fun vs l' q => ⟨t, vs, rfl, q⟩
  · rintro _ l' ⟨t, r, rfl, nw, lf, rfl, hx, g, ht, hz⟩
    exact ⟨Nat.le_trans (m := 10) (Nat.succ_le_succ (Nat.le_of_lt hz)) (Nat.le_of_ble_eq_true rfl), fun D hD => .mk _ (g.new hD) ⟨lf, ⟨D, t, r, rfl, .head _, Lf.tl_mono (fun p h => .tail _ h) ht⟩, hx⟩⟩
theorem ar_lf0 : Ar c m l [] pos (Lfs F 0 l) := ar_nil ⟨rfl, fun _ h => h, (fun _ h => nomatch h)⟩
theorem ar_lf (h1 : Ev c m l e (NwR F l)) (h2 : ∀ l', Ar c m l' es pos (Lfs F k l')) (hs : starEach (e :: es) c.env = (false, eval e c.env) :: starEach es c.env := by rfl) : Ar c m l (e :: es) pos (Lfs F (k + 1) l) := by
  refine ar_cons h1 (fun v l' p => (h2 l').mono fun vs l'' q => ?_) hs
  have pp := p
  obtain ⟨_, g, _⟩ := pp
  exact ⟨congrArg Nat.succ q.1, fun x hx => q.2.1 x (g.s x hx), List.forall_mem_cons.mpr ⟨p.to (fun _ h => h) q.2.1, fun u hu => (q.2.2 u hu).to g.s fun _ h => h⟩⟩
theorem ev_one {j n : Nat} (h : Ar c m l es pos (Lfs F n l)) (hn : n < 1000) (hj : j < n) (h2 : ∀ l', Pu c m l' e2 (IntV (j : Int))) (hs : ∀ D a t, subscripted e2 false (.ref D) (.int a t) = operate [.ref D, .int a t] (getItem (.ref D) (.int a t)) := by intro _ _ _; with_unfolding_all rfl) : Ev c m l (.Subscript (.List es pos) e2 np) (NwR F l) := by
  refine ev_itemL (P1 := fun v l' => ∃ D vs, v = .ref D ∧ (D, lstO vs 0) ∈ l' ∧ vs.length = n ∧ ∀ v ∈ vs, NwR F l v l') (ev_list h ?_) ?_ hs
  · rintro vs l' ⟨hz, hs, h⟩
    exact ⟨Nat.le_trans (Nat.le_of_eq hz) (Nat.le_trans (Nat.le_of_lt hn) (Nat.le_of_ble_eq_true rfl)), fun D _ => ⟨D, vs, rfl, .head _, hz, fun v hv => (h v hv).to (fun _ h => h) fun _ h => .tail _ h⟩⟩
  · rintro _ l' ⟨D, vs, rfl, hm, hz, h⟩
    have hlt : j < vs.length := hz ▸ hj
    exact ⟨D, vs, 0, j, vs[j], rfl, hm, Nat.lt_trans hj hn, List.getElem?_eq_getElem hlt, h2 _, h _ (List.getElem_mem hlt)⟩
theorem ev_nx (h : Ar c m l es pos (SupA k l)) (hk : k ≤ 2 := by decide) : Ev c m l (.List es pos) (NwR NxF l) := ev_list h fun vs l' p => ⟨Nat.le_trans (m := 2) (p.1 ▸ hk) (Nat.le_of_ble_eq_true rfl), fun D hD => .mk _ ((Up.nil p.2).new hD) ⟨D, vs, rfl, .head _, p.1 ▸ hk⟩⟩
set_option maxRecDepth 100000 in
theorem tr_simple {form mark : Nat} {ft mt : Tok} (W : c.Ok sc) (hform : form < 9) (hmark : mark < 100000) (hdp : c.dp + 10 < recursionLimit) :
    Tr c m l (call (.ref 163) [.int form ft, .int mark mt]) (NwR LfF l) := by
  refine' tr_def (binds := [(Str.ofString "form", .int form ft), (Str.ofString "mark", .int mark mt)]) W ?ho ?hcd ?hr ?hb ?hl ?h1 ?h2 ?h3 ?h4 ?_
  (case ho => k_is)
  (case hcd => k_is)
  (case hr => exact Nat.lt_of_le_of_lt (Nat.le_add_right _ _) hdp)
  (case hb => exact rfl)
  (case hl => exact locs rfl)
  (case h1 => exact rfl)
  (case h2 => exact rfl)
  (case h3 => exact rfl)
  (case h4 => decide)
  clear W
  intro c' Q W hd hu hret hret2
  have hm3 : mark % 3 < 3 := Nat.mod_lt _ (by decide)
  have h90 : mark % 90 < 1000 := Nat.lt_trans (Nat.mod_lt _ (by decide : 0 < 90)) (by decide)
  have md : ∀ {m' : Nm} {l' : Led} {j : Nat} {p1 p2 p3 : Pos} {k3 : Nat}, m' (Str.ofString "mark") = some (.int mark mt) → 0 < j → Pu c' m' l' (.BinOp (.Name (Str.ofString "mark") p1) .Mod (.Constant (.int (j : Int)) k3 p2) p3) (IntV ((mark % j : Nat) : Int)) := fun h hj => pu_md hj (pi_name W h) pu_int
  have h3 : ∀ j : Nat, j < 3 → (Txt.charAt (Str.ofString "ABC") j).isSome = true ∧ fitsSsize (j : Int) = true ∧ (Txt.item (Str.ofString "ABC") j).length ≤ 1 := by decide +kernel
  refine go_assign W (pu_addS pu_str (pu_char (h3 _ hm3).1 (h3 _ hm3).2.1 (md rfl (by decide))) (Nat.le_trans (Nat.add_le_add_left (h3 _ hm3).2.2 _) (by decide +kernel))) ?_
  rintro _ _ ⟨⟨t0, rfl⟩, rfl⟩
  rename_i l
  have N1 : upd (fun y => ([(Str.ofString "form", Value.int form ft), (Str.ofString "mark", .int mark mt)] : List (Str × Value)).reverse.lookup y) (Str.ofString "name") (.str (Str.ofString "FN" ++ Txt.item (Str.ofString "ABC") ((mark % 3 : Nat) : Int)) t0) (Str.ofString "mark") = some (.int mark mt) := rfl
  have N2 : upd (fun y => ([(Str.ofString "form", Value.int form ft), (Str.ofString "mark", .int mark mt)] : List (Str × Value)).reverse.lookup y) (Str.ofString "name") (.str (Str.ofString "FN" ++ Txt.item (Str.ofString "ABC") ((mark % 3 : Nat) : Int)) t0) (Str.ofString "form") = some (.int form ft) := rfl
  have N3 : upd (fun y => ([(Str.ofString "form", Value.int form ft), (Str.ofString "mark", .int mark mt)] : List (Str × Value)).reverse.lookup y) (Str.ofString "name") (.str (Str.ofString "FN" ++ Txt.item (Str.ofString "ABC") ((mark % 3 : Nat) : Int)) t0) (Str.ofString "name") = some (.str (Str.ofString "FN" ++ Txt.item (Str.ofString "ABC") ((mark % 3 : Nat) : Int)) t0) := rfl
  generalize upd (fun y => ([(Str.ofString "form", Value.int form ft), (Str.ofString "mark", .int mark mt)] : List (Str × Value)).reverse.lookup y) (Str.ofString "name") (.str (Str.ofString "FN" ++ Txt.item (Str.ofString "ABC") ((mark % 3 : Nat) : Int)) t0) = m1 at N1 N2 N3 ⊢
  have st : ∀ {l' : Led} {p1 p2 p3 p4 p5 : Pos} {k3 : Nat}, Pu c' m1 l' (.Call (.Name (Str.ofString "str") p4) [.BinOp (.Name (Str.ofString "mark") p1) .Mod (.Constant (.int 90) k3 p2) p3] [] p5) (StV (toString ((mark % 90 : Nat) : Int))) := fun {_} {_ _ _ _ _} {_} => ev_tcall1 (pu_bname W fact_strT0 fact_strT) (md (j := 90) N1 (by decide)) (by rintro _ _ ⟨⟨t, rfl⟩, rfl⟩; exact tr_str h90)
  have wh : ∀ {l' : Led} {e9 : Expr} {p1 p3 : Pos} {k3 k4 : Nat}, (∀ l', Ev c' m1 l' e9 (Sup l')) → (h1 : starEach [e9] c'.env = [(false, eval e9 c'.env)]) → (h2 : starEach [.Constant (.str (Str.ofString "whole")) k3 p1, e9] c'.env = (false, eval (.Constant (.str (Str.ofString "whole")) k3 p1) c'.env) :: starEach [e9] c'.env) → Ev c' m1 l' (.Tuple [.Constant (.str (Str.ofString "whole")) k3 p1, e9] k4 p3) (Sup l') := fun h9 h1 h2 => ev_supT (ar_sup pu_str.sup (fun _ => ar_sup (h9 _) (fun _ => ar_sup0) h1) h2)
  refine go_ret (P := NwR LfF l) (ev_one (n := 9) ?_ (by decide) hform fun _ => pi_name W N2) fun v l2 p => hret v _ l2 p
  refine ar_lf ?_ fun l1 => ar_lf ?_ fun l2 => ar_lf ?_ fun l3 => ar_lf ?_ fun l4 => ar_lf ?_ fun l5 => ar_lf ?_ fun l6 => ar_lf ?_ fun l7 => ar_lf ?_ fun l8 => ar_lf ?_ fun l9 => ar_lf0
  · refine ev_leaf (ar_cons st ?_)
    rintro _ _ ⟨⟨t, rfl⟩, rfl⟩
    exact ar_nil (.mk [] (.rem _) rfl (Nat.zero_le _) (.nil fun _ h => h) ⟨_, rfl⟩ (Nat.le_of_ble_eq_true rfl))
  · refine ev_leaf (ar_cons (P1 := fun v l' => ∃ b k2 k3, v = .ref b ∧ Up l1 [(b, lstO [.str (Str.ofString "a" ++ Str.ofString (toString ((mark % 90 : Nat) : Int))) k2, .str (Str.ofString "b") k3] 0)] l') (ev_list (P1 := fun vs l' => ∃ k2 k3, vs = [.str (Str.ofString "a" ++ Str.ofString (toString ((mark % 90 : Nat) : Int))) k2, .str (Str.ofString "b") k3] ∧ l' = l1) (ar_cons (pu_addS pu_str st ?_) ?_) ?_) ?_)
    · have := PyProof.Rows.len_str_of_int ((mark % 90 : Nat) : Int)
      exact Nat.le_trans (m := 1 + 1000) (Nat.add_le_add_left (by omega) _) (by decide)
    · rintro _ _ ⟨⟨k2, rfl⟩, rfl⟩
      refine ar_cons pu_str ?_
      rintro _ _ ⟨⟨k3, rfl⟩, rfl⟩
      exact ar_nil ⟨k2, k3, rfl, rfl⟩
    · rintro _ _ ⟨k2, k3, rfl, rfl⟩
      exact ⟨Nat.le_of_ble_eq_true rfl, fun D hD => ⟨D, k2, k3, rfl, (Up.nil fun _ h => h).new hD⟩⟩
    · rintro _ l' ⟨b, k2, k3, rfl, g⟩
      exact ar_nil (.mk _ (.data _) rfl (Nat.zero_le _) g ⟨b, 0, k2, k3, rfl, .head _⟩ (Nat.le_of_ble_eq_true rfl))
  · refine ev_leaf ((ar_sup (wh (fun _ => (pu_name W N1).sup) rfl rfl) fun _ => ar_sup0).mono fun _ _ h => h.lf (lf := .whil) rfl (Nat.zero_le _) trivial)
  · refine ev_leaf (ar_sup0.mono fun _ _ h => h.lf (lf := .wend) rfl (Nat.zero_le _) trivial)
  · refine ev_leaf ((ar_sup pu_str.sup fun _ => ar_sup (wh (fun _ => (pu_name W N1).sup) rfl rfl) fun _ => ar_sup (wh (fun _ => pu_int.sup) rfl rfl) fun _ => ar_sup ev_supO fun _ => ar_sup0).mono fun _ _ h => h.lf (lf := .forr) rfl (Nat.zero_le _) trivial)
  · refine ev_leaf (ar_cons (P1 := NwR NxF l5) (ev_one (n := 3) ?_ (by decide) hm3 fun _ => md N1 (by decide)) ?_)
    · refine ar_lf ?_ fun l6 => ar_lf ?_ fun l7 => ar_lf ?_ fun l8 => ar_lf0
      · exact ev_nx (ar_sup pu_str.sup fun _ => ar_sup0)
      · exact ev_nx ar_sup0
      · exact ev_nx (ar_sup pu_str.sup fun _ => ar_sup pu_str.sup fun _ => ar_sup0)
    · rintro _ l' ⟨nw, g, b, items, rfl, hb, hz⟩
      exact ar_nil (.mk _ (.next items.length) rfl hz g ⟨b, 0, items, rfl, hb, rfl⟩ (Nat.le_of_ble_eq_true rfl))
  · refine ev_leaf (ar_cons (pu_name W N3) ?_)
    rintro _ _ ⟨rfl, rfl⟩
    refine ar_cons ev_supN fun v l' h => ar_nil (.mk [] (.deff _) rfl (Nat.zero_le _) (.nil h) ⟨_, _, rfl⟩ (Nat.le_of_ble_eq_true rfl))
  · refine ev_leaf (ar_sup0.mono fun _ _ h => h.lf (lf := .fnend) rfl (Nat.zero_le _) trivial)
  · refine ev_leaf ((ar_sup (md (j := 50) N1 (by decide)).sup fun _ => ar_sup0).mono fun _ _ h => h.lf (lf := .goto) rfl (Nat.zero_le _) trivial)
end
noncomputable abbrev boxO (nu : Addr) (b1 b2 b3 : Nat) (t1 t2 t3 : Tok) (n : Nat) : Obj := lstO [.ref nu, .int (b1 : Int) t1, .int (b2 : Int) t2, .int (b3 : Int) t3] n
structure B3 where
  a : Nat
  b : Nat
  c : Nat
structure Le3 (b c : B3) (k : Nat) : Prop where
  h1 : c.a ≤ b.a + k
  h2 : b.b ≤ c.b
  h3 : c.b ≤ b.b + k
  h4 : c.c ≤ b.c + k
structure Sm (b : B3) (k : Nat) : Prop where
  h1 : b.a + k < 10000
  h2 : b.b + k < 10000
  h3 : b.c + k < 10000
theorem le3_aux {x y z k j : Nat} (h : y ≤ x + k) (h2 : z ≤ y + j) : z ≤ x + (k + j) := Nat.le_trans h2 (by rw [← Nat.add_assoc]; exact Nat.add_le_add_right h j)
theorem Le3.trans {b c d : B3} {k j : Nat} (h : Le3 b c k) (h2 : Le3 c d j) : Le3 b d (k + j) := ⟨le3_aux h.h1 h2.h1, Nat.le_trans h.h2 h2.h2, le3_aux h.h3 h2.h3, le3_aux h.h4 h2.h4⟩
theorem Le3.mono {b c : B3} {k j : Nat} (h : Le3 b c k) (hk : k ≤ j) : Le3 b c j := ⟨Nat.le_trans h.h1 (Nat.add_le_add_left hk _), h.h2, Nat.le_trans h.h3 (Nat.add_le_add_left hk _), Nat.le_trans h.h4 (Nat.add_le_add_left hk _)⟩
theorem Le3.refl {b : B3} {k : Nat} : Le3 b b k := ⟨Nat.le_add_right _ _, Nat.le_refl _, Nat.le_add_right _ _, Nat.le_add_right _ _⟩
theorem sm_aux {x y k j K : Nat} (h : x + K < 10000) (h2 : y ≤ x + k) (hk : k + j ≤ K) : y + j < 10000 := Nat.lt_of_le_of_lt (Nat.le_trans (Nat.add_le_add_right h2 j) (by rw [Nat.add_assoc]; exact Nat.add_le_add_left hk x)) h
theorem Sm.step {b c : B3} {k j K : Nat} (s : Sm b K) (h : Le3 b c k) (hk : k + j ≤ K) : Sm c j := ⟨sm_aux s.h1 h.h1 hk, sm_aux s.h2 h.h3 hk, sm_aux s.h3 h.h4 hk⟩
noncomputable def BoxIn (l : Led) (bx nu : Addr) (b : B3) : Prop := ∃ t1 t2 t3 n, (bx, boxO nu b.a b.b b.c t1 t2 t3 n) ∈ l
theorem BoxIn.mono {l l' : Led} {bx nu : Addr} {b : B3} (h : BoxIn l bx nu b) (hs : ∀ p ∈ l, p.1 = bx → p ∈ l') : BoxIn l' bx nu b := let ⟨t1, t2, t3, n, hm⟩ := h; ⟨t1, t2, t3, n, hs _ hm rfl⟩
inductive StmP (bx nu : Addr) (b : B3) (deep : Nat) (l : Led) (v : Value) (l' : Led) : Prop
  | mk (D : Addr) (vs : List Value) (k : Nat) (t : T) (c : B3) (nw : Led) (hv : v = .ref D) (hb : BoxIn l' bx nu c) (g : Grow bx l nw l') (hD : (D, lstO vs k) ∈ nw) (R : RepT nw vs t) (ok : OkT c.b t) (hg : t.hgt ≤ deep) (hs : t.size ≤ bnd deep) (le : Le3 b c (bnd deep))
noncomputable def Stm (prog : Program) (w : World) (deep : Nat) : Prop := ∀ {c : Wc prog w} {sc : Scope} {m : Nm} {l : Led} {bx nu : Addr} {nv : List Value} {nn : List Nat} {kn : Nat} {b : B3} {dt : Tok}, c.Ok sc →
  (nu, lstO nv kn) ∈ l → nu ≠ bx → Two NatV nv nn → 0 < nn.length → nn.length < 100 → BoxIn l bx nu b → Sm b (bnd deep) → c.dp + 20 + 20 * deep < recursionLimit →
  Tr c m l (call (.ref 156) [.ref bx, .int (deep : Int) dt]) (StmP bx nu b deep l)
inductive One (bx nu : Addr) (b : B3) (deep : Nat) (l : Led) (v : Value) (l' : Led) : Prop
  | mk (t : T) (c : B3) (nw : Led) (hb : BoxIn l' bx nu c) (g : Grow bx l nw l') (R : RepT nw [v] t) (ok : OkT c.b t) (hg : t.hgt ≤ deep) (hs : t.size ≤ per deep) (le : Le3 b c (per deep))
inductive StS (bx nu : Addr) (b : B3) (deep : Nat) (F : Addr) (l : Led) (i : Nat) (vs : List Value) (k : Nat) (l1 : Led) : Prop
  | mk (t : T) (c : B3) (nw : Led) (hb : BoxIn l1 bx nu c) (hF : (F, lstO vs k) ∈ l1) (g : Grow bx l nw l1) (nF : ∀ x ∈ l, F ≠ x.1) (off : ∀ p ∈ nw, p.1 ≠ F) (R : RepT nw vs t) (ok : OkT c.b t) (hg : t.hgt ≤ deep) (hs : t.size ≤ i * per deep) (le : Le3 b c (1 + i * per deep)) (hl : vs.length = i)
theorem one_next {bx nu F I : Addr} {b c : B3} {deep i k : Nat} {l l1 l2 nw : Led} {vs : List Value} {v : Value} {o : Obj} {t : T} (hF : (F, lstO vs k) ∈ l1) (g : Grow bx l nw l1) (nF : ∀ x ∈ l, F ≠ x.1) (off : ∀ p ∈ nw, p.1 ≠ F) (R : RepT nw vs t) (ok : OkT c.b t) (hg : t.hgt ≤ deep) (hs : t.size ≤ i * per deep) (le : Le3 b c (1 + i * per deep)) (hl : vs.length = i)
    (O : One bx nu c deep ((I, o) :: l1) v l2) (offI : ∀ p ∈ l1, p.1 ≠ I) : StS bx nu b deep F l (i + 1) (vs ++ [v]) (k + 1) (put F (lstO (vs ++ [v]) (k + 1)) (without I l2)) ∧ (∀ p ∈ put F (lstO (vs ++ [v]) (k + 1)) (without I l2), p.1 ≠ I) ∧ ∀ p ∈ (I, o) :: put F (lstO (vs ++ [v]) (k + 1)) (without I l2), p ∈ put F (lstO (vs ++ [v]) (k + 1)) l2 := by
  obtain ⟨t2, c2, nw2, hb2, g2, R2, ok2, hg2, hs2, le2⟩ := O
  obtain ⟨g3, hI⟩ := g.turn g2 offI
  have hFI := offI _ hF
  have hFb : bx ≠ F := let ⟨_, ho⟩ := g.h0; (nF _ ho).symm
  have hbI : bx ≠ I := let ⟨_, ho⟩ := g.h1; offI _ ho
  have off2 : ∀ p ∈ nw2 ++ nw, p.1 ≠ F := List.forall_mem_append.mpr ⟨fun p h => (g2.n p h).2 _ (.tail _ hF), off⟩
  refine ⟨.mk (t.app t2) c2 (nw2 ++ nw) (hb2.mono fun p h e => mem_put (mem_without.mpr ⟨h, e ▸ hbI⟩) (e ▸ hFb)) (.head _) ⟨fun p h n => mem_put (g3.s p h n) (nF p h).symm, fun p h => ⟨mem_put (g3.n p h).1 (off2 p h), (g3.n p h).2⟩, g3.h0, let ⟨o2, ho⟩ := g3.h1; ⟨o2, mem_put ho hFb⟩⟩ nF off2 ((R.mono fun p h => List.mem_append_right _ h).append (R2.mono fun p h => List.mem_append_left _ h)) (OkT.app ok2 (OkT.mono le2.h2 ok)) ?_ ?_ ((le.trans le2).mono (by rw [Nat.succ_mul, Nat.add_assoc]; exact Nat.le_refl _)) (by rw [List.length_append, hl]; rfl), ?_, ?_⟩
  · rw [T.hgt_app]; exact Nat.max_le.mpr ⟨hg, hg2⟩
  · rw [T.size_app, Nat.succ_mul]; exact Nat.add_le_add hs hs2
  · exact List.forall_mem_cons.mpr ⟨hFI, fun p h => (mem_without.mp (mem_without.mp h).1).2⟩
  · exact List.forall_mem_cons.mpr ⟨mem_put hI (Ne.symm hFI), List.forall_mem_cons.mpr ⟨.head _, fun p h => .tail _ (mem_without.mpr ⟨(mem_without.mp (mem_without.mp h).1).1, (mem_without.mp h).2⟩)⟩⟩
theorem fact_stm : ∀ P, nsIn (Mine.K P) mainGlobals (Str.ofString "_law_statements") = some (some (.ref 156)) := fun P => by k_is
theorem fact_stm2 : ∀ P, keepIn (Mine.K P) (.ref 156) = true := fun P => by k_is
theorem fact_simple : ∀ P, nsIn (Mine.K P) mainGlobals (Str.ofString "_law_simple") = some (some (.ref 163)) := fun P => by k_is
theorem fact_simple2 : ∀ P, keepIn (Mine.K P) (.ref 163) = true := fun P => by k_is
inductive IfA (bx nu : Addr) (b : B3) (d mk : Nat) (l : Led) (vs : List Value) (l' : Led) : Prop
  | mk (q D1 D2 : Addr) (k1 k2 k3 : Tok) (vs1 vs2 : List Value) (n1 n2 : Nat) (ta tb : T) (c : B3) (nw : Led) (hv : vs = [.str (Str.ofString "IF") k1, .ref q, .ref D1, .ref D2]) (hb : BoxIn l' bx nu c) (g : Grow bx l nw l') (hq : (q, tupO [.str (Str.ofString "whole") k2, .int (mk : Int) k3]) ∈ nw) (h1 : (D1, lstO vs1 n1) ∈ nw) (h2 : (D2, lstO vs2 n2) ∈ nw)
      (RA : RepT nw vs1 ta) (RB : RepT nw vs2 tb) (oa : OkT c.b ta) (ob : OkT c.b tb) (ga : ta.hgt ≤ d) (gb : tb.hgt ≤ d) (sa : ta.size ≤ bnd d) (sb : tb.size ≤ bnd d) (le : Le3 b c (bnd d + bnd d))
structure SNm (m : Nm) (bx F : Addr) (deep num : Nat) (dt tn : Tok) : Prop where
  nb : m (Str.ofString "box") = some (.ref bx)
  nd : m (Str.ofString "deep") = some (.int (deep : Int) dt)
  nn : m (Str.ofString "number") = some (.int (num : Int) tn)
  nf : m (Str.ofString "found") = some (.ref F)
theorem SNm.upd {m : Nm} {bx F : Addr} {deep num : Nat} {dt tn : Tok} {x : Str} (h : SNm m bx F deep num dt tn) (v : Value) (h1 : Str.ofString "box" ≠ x) (h2 : Str.ofString "deep" ≠ x) (h3 : Str.ofString "number" ≠ x) (h4 : Str.ofString "found" ≠ x) : SNm (upd m x v) bx F deep num dt tn := ⟨(if_neg h1).trans h.nb, (if_neg h2).trans h.nd, (if_neg h3).trans h.nn, (if_neg h4).trans h.nf⟩
section
variable {prog : Program} {w : World}
set_option maxRecDepth 100000 in
set_option maxHeartbeats 4000000 in
theorem stm_step {deep : Nat} (IH : ∀ d, deep = d + 1 → Stm prog w d) : Stm prog w deep := by
  intro c sc m l bx nu nv nn kn b dt W hnu hnb hnn hn0 hn1 hb hS hdp
  refine' tr_def (binds := [(Str.ofString "box", .ref bx), (Str.ofString "deep", .int (deep : Int) dt)]) W ?ho ?hcd ?hr ?hb ?hl ?h1 ?h2 ?h3 ?h4 ?_
  (case ho => k_is)
  (case hcd => k_is)
  (case hr => exact Nat.lt_of_le_of_lt (Nat.le_trans (Nat.le_add_right _ _) (Nat.le_add_right _ _)) hdp)
  (case hb => exact rfl)
  (case hl => exact locs rfl)
  (case h1 => exact rfl)
  (case h2 => exact rfl)
  (case h3 => exact rfl)
  (case h4 => decide)
  clear W
  intro c' Q W hd hu hret _
  have hd2 : c'.dp + 19 + 20 * deep < recursionLimit := by rw [hd]; exact hdp
  have hl := hnn.length
  obtain ⟨t1, t2, t3, n, hbm⟩ := hb
  obtain ⟨_, y9, hx9, hy9, tx, rfl⟩ := two_get hnn (i := b.a % nn.length) (Nat.mod_lt _ hn0)
  have hba : b.a < 10000 := Nat.lt_of_le_of_lt (Nat.le_add_right _ _) hS.h1
  have hdv : b.a / nn.length < 10000 := Nat.lt_of_le_of_lt (Nat.div_le_self _ _) hba
  have hmd : b.a % nn.length < 100 := Nat.lt_trans (Nat.mod_lt _ hn0) hn1
  refine go_assign W ev_nil ?_
  rintro _ _ ⟨F, rfl, rfl, hF⟩
  have ltF := allLt_iff.mp hF
  have nuM : (nu, lstO nv kn) ∈ (F, lstO [] 0) :: l := .tail _ hnu
  have bxM : (bx, boxO nu b.a b.b b.c t1 t2 t3 n) ∈ (F, lstO [] 0) :: l := .tail _ hbm
  refine go_assign W (Pu.as (pu_add (a := ((y9 / (1 + b.a / nn.length) : Nat) : Int)) (b := (b.a : Int)) (pu_fd (i := y9) (j := 1 + b.a / nn.length) (Nat.lt_add_right _ Nat.one_pos) (by omega) (pu_item nuM (a := ((b.a % nn.length : Nat) : Int)) (Int.natCast_nonneg _) (by rw [Int.toNat_natCast]; exact hx9) (by omega) (pu_item bxM (a := 0) (by decide) rfl (by decide) (pu_name W rfl) pu_int) (pu_md hn0 (pu_item bxM (a := 1) (by decide) rfl (by decide) (pu_name W rfl) pu_int).int ((pu_len W nuM (by omega) (pu_item bxM (a := 0) (by decide) rfl (by decide) (pu_name W rfl) pu_int)).as (by rw [hl])))).int
    ((pu_add (a := 1) (b := ((b.a / nn.length : Nat) : Int)) pu_int (pu_fd hn0 (by omega) (pu_item bxM (a := 1) (by decide) rfl (by decide) (pu_name W rfl) pu_int).int ((pu_len W nuM (by omega) (pu_item bxM (a := 0) (by decide) rfl (by decide) (pu_name W rfl) pu_int)).as (by rw [hl])))).as rfl)) (pu_item bxM (a := 1) (by decide) rfl (by decide) (pu_name W rfl) pu_int).int) (b := ((y9 / (1 + b.a / nn.length) + b.a : Nat) : Int)) rfl) ?_
  rintro _ _ ⟨⟨tn, rfl⟩, rfl⟩
  generalize y9 / (1 + b.a / nn.length) + b.a = num
  clear hx9 hy9 hdv hmd nuM
  refine go_setP (P := Is (IntV ((b.a + 1 : Nat) : Int)) _) (pu_add (pu_item bxM (a := 1) (by decide) rfl (by decide) (pu_name W rfl) pu_int).int pu_int) ?_
  rintro _ _ ⟨⟨t9, rfl⟩, rfl⟩
  refine ⟨bx, _, n, 1, bxM, pu_name W rfl, pu_int, Nat.le_of_ble_eq_true rfl, by decide, ?_⟩
  have S0 : StS bx nu b deep F l 0 [] 0 (put bx (boxO nu (b.a + 1) b.b b.c t9 t2 t3 n) ((F, lstO [] 0) :: l)) := .mk .nil ⟨b.a + 1, b.b, b.c⟩ [] ⟨t9, t2, t3, n, .head _⟩ (mem_put (.head _) (Nat.ne_of_gt (ltF _ hbm))) ⟨fun p h n => mem_put (.tail _ h) n, (fun _ h => nomatch h), ⟨_, hbm⟩, ⟨_, .head _⟩⟩ (fun x h => Nat.ne_of_gt (ltF x h)) (fun _ h => nomatch h) .nil trivial (Nat.zero_le _) (Nat.zero_le _) ⟨Nat.add_le_add_left (Nat.le_add_right _ _) _, Nat.le_refl _, Nat.le_add_right _ _, Nat.le_add_right _ _⟩ rfl
  have N0 : SNm (upd (upd (fun y => ([(Str.ofString "box", Value.ref bx), (Str.ofString "deep", .int (deep : Int) dt)] : List (Str × Value)).reverse.lookup y) (Str.ofString "found") (.ref F)) (Str.ofString "number") (.int (num : Int) tn)) bx F deep num dt tn := ⟨rfl, rfl, rfl, rfl⟩
  generalize upd (upd (fun y => ([(Str.ofString "box", Value.ref bx), (Str.ofString "deep", .int (deep : Int) dt)] : List (Str × Value)).reverse.lookup y) (Str.ofString "found") (.ref F)) (Str.ofString "number") (.int (num : Int) tn) = m0 at N0 ⊢
  have e0 : put bx (boxO nu (b.a + 1) b.b b.c t9 t2 t3 n) ((F, lstO [] 0) :: l) = put bx (lstO (List.set [.ref nu, .int (b.a : Int) t1, .int (b.b : Int) t2, .int (b.c : Int) t3] 1 (.int ((b.a + 1 : Nat) : Int) t9)) n) ((F, lstO [] 0) :: l) := rfl
  rw [← e0]
  clear e0 bxM
  have hn3 : num % 3 < 3 := Nat.mod_lt _ (by decide)
  have hpb := per_bnd deep
  have hp1 : 1 ≤ per deep := by cases deep <;> simp [per]
  refine go_forR W (n := num % 3) (fun i m1 l1 => SNm m1 bx F deep num dt tn ∧ ∃ vs k, StS bx nu b deep F l i vs k l1)
    (ev_range1 W (n := num % 3) (Int.zero_add _).symm (pu_md (j := 3) (by decide) (pi_name W N0.nn) pu_int)) (by decide) (by decide) (Nat.lt_trans hn3 (by decide)) ⟨N0, [], 0, S0⟩ ?_ ?_
  · clear S0 N0 hret
    rintro i tv m1 l1 I o Q' hi ⟨N1, vs, k, ⟨t, c, nw, hb, hF1, g, nF, off, R, ok, hg, hs, le, hvl⟩⟩ offI T9
    have hi2 : i < 2 := Nat.lt_of_lt_of_le hi (Nat.le_of_lt_succ hn3)
    have room : 1 + i * per deep + per deep ≤ bnd deep := by
      rw [← hpb, Nat.add_assoc, ← Nat.succ_mul]
      exact Nat.add_le_add_left (Nat.mul_le_mul_right _ hi2) _
    have hSc : Sm c (per deep) := hS.step le room
    have fin : ∀ {v l2 Q2} {m2 : Nm}, (∀ m l, Go c' Q' m l [] → End c' Q2 m l .next) → SNm m2 bx F deep num dt tn → One bx nu c deep ((I, o) :: l1) v l2 → Go c' Q2 m2 (put F (lstO (vs ++ [v]) (k + 1)) l2) [] := fun K n O => by
      obtain ⟨S, hI, hsub⟩ := one_next hF1 g nF off R ok hg hs le hvl O offI
      exact go_nil (K _ _ (turnE T9 hI ⟨n, _, _, S⟩ hsub))
    have hFb : F ≠ bx := nF _ hbm
    obtain ⟨u1, u2, u3, n1, hbm1⟩ := hb
    refine gt_name W ?_
    refine go_assign W (pu_md (j := 9) (by decide) (pu_fd (i := num) (j := 4 + i) (Nat.lt_add_right _ (by decide)) (Nat.lt_trans (Nat.add_lt_add_left hi2 4) (by decide)) (pi_name W ((if_neg (by decide +kernel)).trans N1.nn)) ((pu_add (a := 4) (b := (0 + (i : Int))) pu_int (pi_name W (if_pos rfl))).as (by rw [Int.zero_add]; rfl))) pu_int) ?_
    rintro _ _ ⟨⟨ft, rfl⟩, rfl⟩
    generalize hform : num / (4 + i) % 9 = form
    have hf9 : form < 9 := hform ▸ Nat.mod_lt _ (by decide)
    have N2 := (N1.upd (x := Str.ofString "spot") (.int (0 + (i : Int)) tv) (by decide +kernel) (by decide +kernel) (by decide +kernel) (by decide +kernel)).upd (x := Str.ofString "form") (.int (form : Int) ft) (by decide +kernel) (by decide +kernel) (by decide +kernel) (by decide +kernel)
    have F2 : upd (upd m1 (Str.ofString "spot") (.int (0 + (i : Int)) tv)) (Str.ofString "form") (.int (form : Int) ft) (Str.ofString "form") = some (.int (form : Int) ft) := if_pos rfl
    generalize upd (upd m1 (Str.ofString "spot") (.int (0 + (i : Int)) tv)) (Str.ofString "form") (.int (form : Int) ft) = m2 at N2 F2 ⊢
    have bxI : (bx, boxO nu c.a c.b c.c u1 u2 u3 n1) ∈ (I, o) :: l1 := .tail _ hbm1
    have hvz : vs.length < 1000000 := by rw [hvl]; exact Nat.lt_trans hi2 (by decide)
    have hFI : (F, lstO vs k) ∈ (I, o) :: l1 := .tail _ hF1
    have hnuI : (nu, lstO nv kn) ∈ (I, o) :: l1 := .tail _ (g.s _ hnu hnb)
    have tst : ∀ p1 p2 p3 p4 p5 p6 p7 k3 k4, Ts c' m2 ((I, o) :: l1) (.BoolOp .And [.Compare (.Name (Str.ofString "form") p1) [.Lt] [.Constant (.int 3) k3 p2] p3, .Compare (.Name (Str.ofString "deep") p4) [.Gt] [.Constant (.int 0) k4 p5] p6] p7) (decide ((form : Int) < 3) && decide ((0 : Int) < (deep : Int))) := fun p1 p2 p3 p4 p5 p6 p7 k3 k4 => ts_and2 (ts_int rfl (pi_name W F2) pu_int) (ts_int rfl (pi_name W N2.nd) pu_int)
    by_cases hc : form < 3 ∧ 0 < deep
    · obtain ⟨d, rfl⟩ : ∃ d, deep = d + 1 := ⟨deep - 1, (Nat.succ_pred_eq_of_pos hc.2).symm⟩
      refine go_if_t (Ts.as (tst _ _ _ _ _ _ _ _ _) (Bool.and_eq_true_iff.mpr ⟨decide_eq_true (Int.ofNat_lt.mpr hc.1), decide_eq_true (Int.natCast_pos.mpr hc.2)⟩)) fun Q2 C => ?_
      have IHd : Stm prog w d := @IH d rfl
      have hper : per (d + 1) = bnd d + bnd d + 2 := by show 2 * bnd d + 2 = _; rw [Nat.two_mul]
      refine go_setP (P := Is (IntV ((c.b + 1 : Nat) : Int)) _) (pu_add (pi_item bxI (a := 2) (by decide) rfl (by decide) (pu_name W N2.nb) pu_int) pu_int) ?_
      rintro _ _ ⟨⟨t9, rfl⟩, rfl⟩
      refine ⟨bx, _, n1, 2, bxI, pu_name W N2.nb, pu_int, Nat.le_of_ble_eq_true rfl, by decide, ?_⟩
      have gB : Grow bx ((I, o) :: l1) [] (put bx (boxO nu c.a (c.b + 1) c.c u1 t9 u3 n1) ((I, o) :: l1)) := Grow.put bxI
      have bx2 : (bx, boxO nu c.a (c.b + 1) c.c u1 t9 u3 n1) ∈ put bx (boxO nu c.a (c.b + 1) c.c u1 t9 u3 n1) ((I, o) :: l1) := .head _
      have e0 : put bx (boxO nu c.a (c.b + 1) c.c u1 t9 u3 n1) ((I, o) :: l1) = put bx (lstO (List.set [.ref nu, .int (c.a : Int) u1, .int (c.b : Int) u2, .int (c.c : Int) u3] 2 (.int ((c.b + 1 : Nat) : Int) t9)) n1) ((I, o) :: l1) := rfl
      rw [← e0]
      generalize put bx (boxO nu c.a (c.b + 1) c.c u1 t9 u3 n1) ((I, o) :: l1) = l3 at gB bx2 ⊢
      clear e0
      refine go_assign W (pu_item bx2 (a := 2) (by decide) rfl (by decide) (pu_name W N2.nb) pu_int) ?_
      rintro _ _ ⟨rfl, rfl⟩
      rename_i l3
      have N3 := N2.upd (x := Str.ofString "mark") (.int ((c.b + 1 : Nat) : Int) t9) (by decide +kernel) (by decide +kernel) (by decide +kernel) (by decide +kernel)
      have F3 : upd m2 (Str.ofString "mark") (.int ((c.b + 1 : Nat) : Int) t9) (Str.ofString "form") = some (.int (form : Int) ft) := (if_neg (by decide +kernel)).trans F2
      have K3 : upd m2 (Str.ofString "mark") (.int ((c.b + 1 : Nat) : Int) t9) (Str.ofString "mark") = some (.int ((c.b + 1 : Nat) : Int) t9) := if_pos rfl
      generalize upd m2 (Str.ofString "mark") (.int ((c.b + 1 : Nat) : Int) t9) = m3 at N3 F3 K3 ⊢
      have hF3 := gB.s _ hFI hFb
      have hnu3 := gB.s _ hnuI hnb
      have leB : Le3 c ⟨c.a, c.b + 1, c.c⟩ 1 := ⟨Nat.le_add_right _ _, Nat.le_add_right _ _, Nat.le_refl _, Nat.le_add_right _ _⟩
      have hS3 : Sm ⟨c.a, c.b + 1, c.c⟩ (bnd d + bnd d) := hSc.step leB (by rw [hper, Nat.add_comm]; exact Nat.add_le_add_left (by decide) _)
      have dn : ∀ (l9 : Led) p1 p2 p3 k9, Pu c' m3 l9 (.BinOp (.Name (Str.ofString "deep") p1) .Sub (.Constant (.int 1) k9 p2) p3) (IntV (d : Int)) := fun l9 p1 p2 p3 k9 => Pu.as (pu_subt (pi_name W N3.nd) pu_int) (Int.add_sub_cancel (d : Int) 1)
      have rec9 : ∀ (l9 : Led) (b9 : B3) p1 p2 p3 p4 p5 p6 k9, (nu, lstO nv kn) ∈ l9 → BoxIn l9 bx nu b9 → Sm b9 (bnd d) → Ev c' m3 l9 (.Call (.Name (Str.ofString "_law_statements") p1) [.Name (Str.ofString "box") p2, .BinOp (.Name (Str.ofString "deep") p3) .Sub (.Constant (.int 1) k9 p4) p5] [] p6) (StmP bx nu b9 d l9) := by
        intro l9 b9 p1 p2 p3 p4 p5 p6 k9 h1 h2 h3
        refine ev_call W fact_stm fact_stm2 (C := fun as l' => ∃ td, as = [.ref bx, .int (d : Int) td] ∧ l' = l9) (ar_cons (pu_name W N3.nb) ?_) ?_
        · rintro _ _ ⟨rfl, rfl⟩
          refine ar_cons (dn _ _ _ _ _) ?_
          rintro _ _ ⟨⟨td, rfl⟩, rfl⟩
          exact ar_nil ⟨td, rfl, rfl⟩
        · rintro _ _ ⟨td, rfl, rfl⟩
          exact IHd W.toOk h1 hnb hnn hn0 hn1 h2 h3 (Nat.lt_of_le_of_lt (show c'.dp + 20 + 20 * d ≤ c'.dp + 19 + 20 * d + 20 by rw [Nat.add_right_comm _ (20 * d) 20]; exact Nat.add_le_add_right (Nat.add_le_add_left (by decide : 20 ≤ 39) _) _) hd2)
      refine go_app W hF3 (pu_name W N3.nf) (P := fun v l' => ∃ as l5 T, v = .ref T ∧ AllLt T l5 ∧ l' = (T, tupO as) :: l5 ∧ IfA bx nu ⟨c.a, c.b + 1, c.c⟩ d (c.b + 1) l3 as l5) (ev_tup (P1 := IfA bx nu ⟨c.a, c.b + 1, c.c⟩ d (c.b + 1) l3) (ar_cons pu_str ?_) ?_) ?_
      · rintro _ _ ⟨⟨k1, rfl⟩, rfl⟩
        rename_i l3
        refine ar_cons (P1 := fun v l' => ∃ q k2, v = .ref q ∧ AllLt q l3 ∧ l' = (q, tupO [.str (Str.ofString "whole") k2, .int ((c.b + 1 : Nat) : Int) t9]) :: l3) (ev_tup (P1 := fun as l' => (∃ k2, as = [.str (Str.ofString "whole") k2, .int ((c.b + 1 : Nat) : Int) t9]) ∧ l' = l3) (ar_cons pu_str ?_) ?_) ?_
        · rintro _ _ ⟨⟨k2, rfl⟩, rfl⟩
          refine ar_cons (pu_name W K3) ?_
          rintro _ _ ⟨rfl, rfl⟩
          exact ar_nil ⟨⟨k2, rfl⟩, rfl⟩
        · rintro _ _ ⟨⟨k2, rfl⟩, rfl⟩
          exact ⟨Nat.le_of_ble_eq_true rfl, fun D hD => ⟨D, k2, rfl, hD, rfl⟩⟩
        rintro _ _ ⟨q, k2, rfl, hq, rfl⟩
        have gq := Grow.new (x := tupO [.str (Str.ofString "whole") k2, .int ((c.b + 1 : Nat) : Int) t9]) bx2 hq
        refine ar_cons (rec9 _ ⟨c.a, c.b + 1, c.c⟩ _ _ _ _ _ _ _ (.tail _ hnu3) ⟨_, _, _, _, .tail _ bx2⟩ (hS3.step Le3.refl (k := 0) (by rw [Nat.zero_add]; exact Nat.le_add_right _ _))) ?_
        rintro _ l4 ⟨D1, vs1, n2, ta, c4, nw4, rfl, hb4, g4, hD1, RA, oa, ga, sa, le4⟩
        have gq4 := gq.trans g4
        have hnu4 := g4.s _ (.tail _ hnu3) hnb
        refine ar_cons (P1 := StmP bx nu c4 d l4) ?_ ?_
        · by_cases hf0 : 0 < form
          · exact ev_if_t (Ts.as (ts_int rfl (pi_name W F3) pu_int) (decide_eq_true (Int.natCast_pos.mpr hf0))) (rec9 _ c4 _ _ _ _ _ _ _ hnu4 hb4 (hS3.step le4 (Nat.le_refl _)))
          · refine ev_if_f (Ts.as (ts_int rfl (pi_name W F3) pu_int) (decide_eq_false fun h => hf0 (Int.natCast_pos.mp h))) (ev_nil.mono ?_)
            rintro _ _ ⟨D2, rfl, rfl, hD2⟩
            obtain ⟨w1, w2, w3, n4, hbm4⟩ := hb4
            exact .mk D2 [] 0 .nil c4 _ rfl ⟨w1, w2, w3, n4, .tail _ hbm4⟩ (Grow.new hbm4 hD2) (.head _) .nil trivial (Nat.zero_le _) (Nat.zero_le _) Le3.refl
        rintro _ l5 ⟨D2, vs2, n5, tb, c5, nw5, rfl, hb5, g5, hD2, RB, ob, gb, sb, le5⟩
        exact ar_nil (.mk q D1 D2 k1 k2 t9 vs1 vs2 n2 n5 ta tb c5 _ rfl hb5 (gq4.trans g5) (List.mem_append_right _ (List.mem_append_right _ (.head _))) (List.mem_append_right _ (List.mem_append_left _ hD1)) (List.mem_append_left _ hD2) (RA.mono fun p h => List.mem_append_right _ (List.mem_append_left _ h)) (RB.mono fun p h => List.mem_append_left _ h) (OkT.mono le5.h2 oa) ob ga gb sa sb (le4.trans le5))
      · rintro as l5 h
        have hh := h
        obtain ⟨q, D1, D2, k1, k2, k3, vs1, vs2, n2, n5, ta, tb, c5, nw5, rfl, _⟩ := hh
        exact ⟨Nat.le_of_ble_eq_true rfl, fun D hD => ⟨_, l5, D, rfl, hD, rfl, h⟩⟩
      · rintro _ _ ⟨_, l5, T, rfl, hT, rfl, ⟨q, D1, D2, k1, k2, k3, vs1, vs2, n2, n5, ta, tb, c5, nw5, rfl, hb5, g5, hq, h1, h2, RA, RB, oa, ob, ga, gb, sa, sb, le5⟩⟩
        refine ⟨vs, k, .tail _ (g5.s _ hF3 hFb), hvz, fin (fun m l => C.nx m l) N3 ?_⟩
        obtain ⟨o5, ho5⟩ := g5.h1
        have up : ∀ p ∈ nw5, p ∈ [(T, tupO [.str (Str.ofString "IF") k1, .ref q, .ref D1, .ref D2])] ++ (nw5 ++ []) := fun p h => .tail _ (show p ∈ nw5 ++ [] from List.mem_append_left _ h)
        refine .mk (.ite (.ref T) (c.b + 1) ta tb .nil) c5 _ (hb5.mono fun p h _ => .tail _ h) ((gB.trans g5).trans (Grow.new ho5 hT)) (.ite (.head _) (up _ hq) (up _ h1) (up _ h2) (RA.mono up) (RB.mono up) .nil) ⟨le5.h2, oa, ob, trivial⟩ ?_ ?_ ?_
        · exact Nat.max_le.mpr ⟨Nat.succ_le_succ (Nat.max_le.mpr ⟨ga, gb⟩), Nat.zero_le _⟩
        · rw [hper]
          exact Nat.add_le_add_right (Nat.add_le_add sa sb) 2
        · exact (leB.trans le5).mono (by rw [hper, Nat.add_comm]; exact Nat.add_le_add_left (by decide) _)
    · refine go_if_f (Ts.as (tst _ _ _ _ _ _ _ _ _) (Bool.eq_false_iff.mpr fun h => hc ⟨Int.ofNat_lt.mp (of_decide_eq_true (Bool.and_eq_true_iff.mp h).1), Int.natCast_pos.mp (of_decide_eq_true (Bool.and_eq_true_iff.mp h).2)⟩)) fun Q2 C => ?_
      refine go_setP (P := Is (IntV ((c.c + 1 : Nat) : Int)) _) (pu_add (pi_item bxI (a := 3) (by decide) rfl (by decide) (pu_name W N2.nb) pu_int) pu_int) ?_
      rintro _ _ ⟨⟨t9, rfl⟩, rfl⟩
      refine ⟨bx, _, n1, 3, bxI, pu_name W N2.nb, pu_int, Nat.le_of_ble_eq_true rfl, by decide, ?_⟩
      have gB : Grow bx ((I, o) :: l1) [] (put bx (boxO nu c.a c.b (c.c + 1) u1 u2 t9 n1) ((I, o) :: l1)) := Grow.put bxI
      have bx2 : (bx, boxO nu c.a c.b (c.c + 1) u1 u2 t9 n1) ∈ put bx (boxO nu c.a c.b (c.c + 1) u1 u2 t9 n1) ((I, o) :: l1) := .head _
      have e0 : put bx (boxO nu c.a c.b (c.c + 1) u1 u2 t9 n1) ((I, o) :: l1) = put bx (lstO (List.set [.ref nu, .int (c.a : Int) u1, .int (c.b : Int) u2, .int (c.c : Int) u3] 3 (.int ((c.c + 1 : Nat) : Int) t9)) n1) ((I, o) :: l1) := rfl
      rw [← e0]
      generalize put bx (boxO nu c.a c.b (c.c + 1) u1 u2 t9 n1) ((I, o) :: l1) = l3 at gB bx2 ⊢
      clear e0
      have hF3 := gB.s _ hFI hFb
      refine go_app W (P := NwR LfF l3) hF3 (pu_name W N2.nf) (ev_call W fact_simple fact_simple2 (C := fun as l' => as = [.int (form : Int) ft, .int ((c.c + 1 : Nat) : Int) t9] ∧ l' = l3) (ar_cons (pu_name W F2) ?_) ?_) ?_
      · rintro _ _ ⟨rfl, rfl⟩
        refine ar_cons (pu_item bx2 (a := 3) (by decide) rfl (by decide) (pu_name W N2.nb) pu_int) ?_
        rintro _ _ ⟨rfl, rfl⟩
        exact ar_nil ⟨rfl, rfl⟩
      · rintro _ _ ⟨rfl, rfl⟩
        exact tr_simple W.toOk hf9 (Nat.lt_trans (Nat.lt_of_le_of_lt (Nat.add_le_add_left hp1 _) hSc.h3) (by decide)) (dp_le hd2 (Nat.le_trans (Nat.add_le_add_left (by decide : 10 ≤ 19) _) (Nat.le_add_right _ _)))
      · rintro v l4 ⟨nw4, ⟨hs4, hn4⟩, lf, hL, hnx⟩
        have g4 : Grow bx l3 nw4 l4 := ⟨fun p h _ => hs4 p h, hn4, ⟨_, bx2⟩, ⟨_, hs4 _ bx2⟩⟩
        exact ⟨vs, k, hs4 _ hF3, hvz, fin (fun m l => C.nx m l) N2 (.mk (.leaf v lf .nil) ⟨c.a, c.b, c.c + 1⟩ _ ⟨u1, u2, t9, n1, hs4 _ bx2⟩ (gB.trans g4) (.leaf (hL.mono fun p h => List.mem_append_left _ h) .nil) ⟨hnx, trivial⟩ (Nat.zero_le _) hp1 ⟨Nat.le_add_right _ _, Nat.le_refl _, Nat.le_add_right _ _, Nat.add_le_add_left hp1 _⟩)⟩
  · rintro m1 l1 ⟨N1, vs, k, ⟨t, c, nw, hb, hF1, g, nF, off, R, ok, hg, hs, le, hvl⟩⟩
    have hmp : num % 3 * per deep ≤ 2 * per deep := Nat.mul_le_mul_right _ (Nat.le_of_lt_succ hn3)
    have hbd : 1 + num % 3 * per deep ≤ bnd deep := by rw [← hpb]; exact Nat.add_le_add_left hmp 1
    refine go_ret (pu_name W N1.nf) ?_
    rintro _ _ ⟨rfl, rfl⟩
    exact hret _ _ _ (.mk F vs k t c ((F, lstO vs k) :: nw) rfl hb ⟨g.s, List.forall_mem_cons.mpr ⟨⟨hF1, nF⟩, g.n⟩, g.h0, g.h1⟩ (.head _) (R.mono fun p h => .tail _ h) ok hg (Nat.le_trans hs (Nat.le_trans (Nat.le_add_left _ _) hbd)) (le.mono hbd))
end
theorem stm_call (prog : Program) (w : World) (deep : Nat) : Stm prog w deep := by
  induction deep with
  | zero => exact stm_step fun d h => absurd h (Nat.succ_ne_zero d).symm
  | succ d ih =>
    refine stm_step fun e h => ?_
    cases Nat.succ.inj h
    exact @ih
inductive Goes (rows : List (Int × RK)) (line : Int) (ans : Nat → Bool) (N : Nat) : Nat → Nat → List Value → Prop
  | out {row : Nat} : rows.length ≤ row → Goes rows line ans N row 0 []
  | stop {row : Nat} {ln : Int} {r : RK} : rows[row]? = some (ln, r) → ln ≠ line → Goes rows line ans N row 0 []
  | leaf {row k : Nat} {v : Value} {l : Lf} {vs : List Value} : rows[row]? = some (line, .leaf v l) → Goes rows line ans N (row + 1) k vs → Goes rows line ans N row (k + 1) (v :: vs)
  | jump {row k tg : Nat} {vs : List Value} : rows[row]? = some (line, .jump tg) → Goes rows line ans N tg k vs → Goes rows line ans N row (k + 1) vs
  | ifnot {row k mk tg : Nat} {vs : List Value} : rows[row]? = some (line, .ifnot mk tg) → mk ≤ N → Goes rows line ans N (if ans mk then row + 1 else tg) k vs → Goes rows line ans N row (k + 1) vs
theorem word_ne_JUMP (l : Lf) : (l.word == Str.ofString "JUMP") = false := by cases l <;> (simp only [Lf.word]; decide)
theorem word_ne_IFNOT (l : Lf) : (l.word == Str.ofString "IFNOT") = false := by cases l <;> (simp only [Lf.word]; decide)
theorem fact_place : ∀ P, nsIn (Mine.K P) mainGlobals (Str.ofString "place_of") = some (some (.ref 114)) := fun P => by k_is
theorem fact_place2 : ∀ P, keepIn (Mine.K P) (.ref 114) = true := fun P => by k_is
section
variable {prog : Program} {w : World}
theorem tr_place {c : Wc prog w} {sc : Scope} {m : Nm} {l : Led} {f : FA} {o : Obj} {kvs : List (Int × Value)} {line : Int} {lt : Tok} {v : Value} (W : c.Ok sc) (hf : FlatIn w.params f l) (D : DictIn prog w l f.places o kvs) (hv : valueAt kvs line = some v) (hdp : c.dp + 10 < recursionLimit) (hun : c.un + 100 < cLine) :
    Tr c m l (call (.ref 114) [.ref f.o, .int line lt]) (Is (Eqv v) l) := .mk fun h tk Q E H k =>
  place_of_hit ⟨W.B, H.F, W.X, W.T, by rw [W.hs]; exact W.hk⟩ H.N hf D hv hdp hun fun h' tk' F' N' => k v l h' tk' ⟨rfl, rfl⟩ ⟨F', N'⟩
structure GoneNm (m : Nm) (o an F : Addr) (line : Int) (lt : Tok) : Prop where
  mf : m (Str.ofString "flat") = some (.ref o)
  ml : m (Str.ofString "line") = some (.int line lt)
  ma : m (Str.ofString "answers") = some (.ref an)
  mo : m (Str.ofString "found") = some (.ref F)
inductive GoneJ (rows : List (Int × RK)) (line : Int) (ans : Nat → Bool) (N : Nat) (vs : List Value) (l : Led) (o an F : Addr) (lt : Tok) (i : Nat) (m : Nm) (l1 : Led) : Prop
  | mk (row k : Nat) (vs1 vs2 : List Value) (nF : Nat) (tr : Tok) (nm : GoneNm m o an F line lt) (mr : m (Str.ofString "row") = some (.int (row : Nat) tr)) (e : l1 = (F, lstO vs1 nF) :: l) (hG : Goes rows line ans N row k vs2) (he : vs1 ++ vs2 = vs) (hk : k + i ≤ rows.length) (hv : vs1.length ≤ i)
set_option maxRecDepth 100000 in
theorem gone_call {c : Wc prog w} {sc : Scope} {m : Nm} {l : Led} {f : FA} {o : Obj} {kvs : List (Int × Value)} {its vs : List Value} {rows : List (Int × RK)} {n st k N : Nat} {an : Addr} {ans : Nat → Bool} {line : Int} {lt st9 : Tok} (W : c.Ok sc) (hf : FlatIn w.params f l) (hr : (f.rows, lstO its n) ∈ l) (hR : RowsL l its rows) (D : DictIn prog w l f.places o kvs)
    (hv : valueAt kvs line = some (.int (st : Int) st9)) (hA : AnsIn l an ans (N + 1)) (hG : Goes rows line ans N st k vs) (hk : k ≤ rows.length) (hz : rows.length < 100000) (hdp : c.dp + 20 < recursionLimit) (hun : c.un + 200 < cLine) :
    Tr c m l (call (.ref 177) [.ref f.o, .int line lt, .ref an]) (NewL l vs) := by
  refine' tr_def (binds := [(Str.ofString "flat", .ref f.o), (Str.ofString "line", .int line lt), (Str.ofString "answers", .ref an)]) W ?ho ?hcd ?hr ?hb ?hl ?h1 ?h2 ?h3 ?h4 ?_
  (case ho => k_is)
  (case hcd => k_is)
  (case hr => exact Nat.lt_of_le_of_lt (Nat.le_add_right _ _) hdp)
  (case hb => exact rfl)
  (case hl => exact locs rfl)
  (case h1 => exact rfl)
  (case h2 => exact rfl)
  (case h3 => exact rfl)
  (case h4 => decide)
  clear W
  intro c' Q W hd hu hret _
  have hlen := hR.length
  have hz6 : its.length < 1000000 := hlen ▸ big_of hz
  refine go_pairs W (P2 := fun v l' => v = .int (st : Int) st9) ev_nil ?_
  rintro _ _ ⟨F, rfl, rfl, hF⟩
  have sub : ∀ p ∈ l, p ∈ (F, lstO [] 0) :: l := fun p h => .tail _ h
  refine Tr.mono (ev_call W fact_place fact_place2 (C := fun as l' => as = [.ref f.o, .int line lt] ∧ l' = (F, lstO [] 0) :: l) (P := Is (Eqv (.int (st : Int) st9)) ((F, lstO [] 0) :: l)) (ar_cons (pu_name W rfl) ?_) ?_) ?_
  · rintro _ _ ⟨rfl, rfl⟩
    refine ar_cons (pu_name W rfl) ?_
    rintro _ _ ⟨rfl, rfl⟩
    exact ar_nil ⟨rfl, rfl⟩
  · rintro _ _ ⟨rfl, rfl⟩
    exact tr_place W.toOk (hf.mono sub) (D.mono sub) hv (lim_sub hd hdp (by decide)) (lim_sub hu hun (by decide))
  rintro _ _ ⟨rfl, rfl⟩
  refine ⟨rfl, ?_⟩
  refine go_forR W (n := its.length + 1) (GoneJ rows line ans N vs l f.o an F lt)
    (ev_range1 W (n := its.length + 1) (a := (its.length : Int) + 1) (Int.zero_add _).symm (pu_add (pu_len W (sub _ hr) hz6 (pu_rows W.toOk (hf.mono sub) (pu_name W rfl))) pu_int)) (by decide) (by decide) (Nat.lt_of_le_of_lt (hlen ▸ hz) (by decide : 100000 < 1000000))
    (.mk st k [] vs 0 st9 ⟨rfl, rfl, rfl, rfl⟩ rfl rfl hG rfl hk (Nat.le_refl _)) ?_ ?_
  · rintro i tv m1 l1 I o1 Q' hi ⟨row, k, vs1, vs2, nF, tr, ⟨mf, ml, ma, mo⟩, mr, rfl, hG1, he, hk1, hv1⟩ hI T9
    refine gt_name W ?_
    have sub1 : ∀ p ∈ l, p ∈ (I, o1) :: (F, lstO vs1 nF) :: l := fun p h => .tail _ (.tail _ h)
    have offF : ∀ p ∈ l, p.1 ≠ F := fun p h => Nat.ne_of_lt (allLt_iff.mp hF p h)
    have offI : ∀ p ∈ l, p.1 ≠ I := fun p h => hI p (.tail _ h)
    have hFI : F ≠ I := hI (F, lstO vs1 nF) (.head _)
    have hend : vs2 = [] → End c' Q' (upd m1 (Str.ofString "turn") (.int (0 + (i : Int)) tv)) ((I, o1) :: (F, lstO vs1 nF) :: l) (.ret (.ref F)) := fun e2 => T9.rt _ _ _ (End.sub (hret _ _ ((F, lstO vs1 nF) :: l) ⟨F, nF, rfl, by rw [← he, e2, List.append_nil], hF⟩) fun p h => .tail _ h)
    have hf1 := hf.mono sub1
    have hr1 := sub1 _ hr
    have hv6 : vs1.length < 1000000 := Nat.lt_of_le_of_lt hv1 (Nat.lt_of_le_of_lt (Nat.le_of_lt_succ hi) hz6)
    have nxt : ∀ m2 row2 k2 vs3 vs4 nF2 tr2, GoneNm m2 f.o an F line lt → m2 (Str.ofString "row") = some (.int (row2 : Nat) tr2) → Goes rows line ans N row2 k2 vs4 → vs3 ++ vs4 = vs → k2 + (i + 1) ≤ rows.length → vs3.length ≤ i + 1 → Go c' Q' m2 ((I, o1) :: (F, lstO vs3 nF2) :: l) [] :=
      fun m2 row2 k2 vs3 vs4 nF2 tr2 h1 h5 h6 h7 h8 h9 => turnE T9 (l' := (F, lstO vs3 nF2) :: l) (List.forall_mem_cons.mpr ⟨hFI, offI⟩) (.mk row2 k2 vs3 vs4 nF2 tr2 h1 h5 rfl h6 h7 h8 h9) fun _ h => h
    by_cases hlt : rows.length ≤ row
    · have h2 : vs2 = [] := by
        cases hG1 with
        | out _ => rfl
        | stop _ _ => rfl
        | leaf h _ => exact absurd (List.getElem?_eq_some_iff.mp h).1 (Nat.not_lt_of_le hlt)
        | jump h _ => exact absurd (List.getElem?_eq_some_iff.mp h).1 (Nat.not_lt_of_le hlt)
        | ifnot h _ _ => exact absurd (List.getElem?_eq_some_iff.mp h).1 (Nat.not_lt_of_le hlt)
      refine go_if_t (ts_or_t (Ts.as (ts_int rfl (pi_name W mr) (pu_len W hr1 hz6 (pu_rows W.toOk hf1 (pu_name W mf)))) (by simp; rw [hlen]; exact hlt))) fun Q2 C => go_ret (pu_name W mo) ?_
      rintro _ _ ⟨rfl, rfl⟩
      exact C.rt _ _ _ (hend h2)
    have hrl : row < its.length := hlen ▸ Nat.lt_of_not_le hlt
    have hr6 : (row : Int) < 1000000 := Int.ofNat_lt.mpr (Nat.lt_trans hrl hz6)
    have row9 : ∃ ln r v, rows[row]? = some (ln, r) ∧ its[row]? = some v ∧ RowAt l ln v r := by
      obtain ⟨v, r, hv9, hr9, hR9⟩ := two_get hR (i := row) (Nat.lt_of_not_le hlt)
      exact ⟨r.1, r.2, v, hr9, hv9, hR9⟩
    obtain ⟨ln, r, _, hr9, hv9, b, a, t, kk, rest, rfl, hb, ha, htl⟩ := row9
    by_cases hne : ln = line
    · subst hne
      refine go_skip (ts_or_f (Ts.as (ts_int rfl (pi_name W mr) (pu_len W hr1 hz6 (pu_rows W.toOk hf1 (pu_name W mf)))) (by simp; exact hrl)) (ts_or_f (Ts.as (ts_int rfl (pi_tup (k := 0) (sub1 _ hb) rfl (by decide) (pu_item hr1 (a := (row : Int)) (Int.natCast_nonneg _) (by rw [Int.toNat_natCast]; exact hv9) hr6 (pu_rows W.toOk hf1 (pu_name W mf)) (pi_name W mr)) pu_int) (pi_name W ml)) (by simp)) ts_or_nil)) ?_
      refine go_assign W (pu_tup (k := 1) (sub1 _ hb) rfl (by decide) (pu_item hr1 (a := (row : Int)) (Int.natCast_nonneg _) (by rw [Int.toNat_natCast]; exact hv9) hr6 (pu_rows W.toOk hf1 (pu_name W mf)) (pi_name W mr)) pu_int) ?_
      rintro _ _ ⟨rfl, rfl⟩
      cases hG1 with
      | out h => exact absurd h hlt
      | stop h h' => rw [hr9] at h; cases h; exact absurd rfl h'
      | leaf h h' =>
        rename_i k v lf vs2
        rw [hr9] at h
        cases h
        refine go_if_f (Ts.as (ts_eqs (ps_tup (k := 0) (sub1 _ ha) rfl (by decide) (pu_name W rfl) pu_int) pu_str) (word_ne_JUMP lf)) fun Q2 C => ?_
        refine go_if_f (Ts.as (ts_eqs (ps_tup (k := 0) (sub1 _ ha) rfl (by decide) (pu_name W rfl) pu_int) pu_str) (word_ne_IFNOT lf)) fun Q3 C3 => ?_
        refine go_append W (.tail _ (.head _)) (pu_name W mo) (pu_name W rfl) ?_
        rintro _ _ ⟨rfl, rfl⟩
        refine ⟨vs1, nF, _, _, fun _ h => h, .tail hFI.symm (.head offF), hv6, ?_⟩
        refine go_assign W (pu_add (pi_name W mr) pu_int) ?_
        rintro _ _ ⟨⟨t9, rfl⟩, rfl⟩
        cases htl.1
        exact go_nil (C3.nx _ _ (go_nil (C.nx _ _ (nxt _ (row + 1) k _ vs2 _ t9 ⟨mf, ml, ma, mo⟩ rfl h' (by rw [List.append_assoc]; exact he) (Nat.le_trans (Nat.le_of_eq (Nat.succ_add k i).symm) hk1) (by rw [List.length_append]; exact Nat.succ_le_succ hv1)))))
      | jump h h' =>
        rename_i k tg
        rw [hr9] at h
        cases h
        obtain ⟨k1, rfl⟩ := htl
        refine go_if_t (Ts.as (ts_eqs (ps_tup (k := 0) (sub1 _ ha) rfl (by decide) (pu_name W rfl) pu_int) pu_str) (by simp only [RK.word]; decide)) fun Q2 C => ?_
        refine go_assign W (pu_tup (k := 1) (sub1 _ ha) rfl (by decide) (pu_name W rfl) pu_int) ?_
        rintro _ _ ⟨rfl, rfl⟩
        exact go_nil (C.nx _ _ (nxt _ tg k _ vs2 _ k1 ⟨mf, ml, ma, mo⟩ rfl h' he (Nat.le_trans (Nat.le_of_eq (Nat.succ_add k i).symm) hk1) (Nat.le_succ_of_le hv1)))
      | ifnot h hmk h' =>
        rename_i k mk tg
        rw [hr9] at h
        cases h
        obtain ⟨q, k1, k2, k3, rfl, hq⟩ := htl
        obtain ⟨av, na, ha1, ha2, ha3, ha4⟩ := id hA
        have hma := Nat.lt_of_lt_of_le (Nat.lt_succ_of_le hmk) ha3
        refine go_if_f (Ts.as (ts_eqs (ps_tup (k := 0) (sub1 _ ha) rfl (by decide) (pu_name W rfl) pu_int) pu_str) (by simp only [RK.word]; decide)) fun Q2 C => ?_
        refine go_if_t (Ts.as (ts_eqs (ps_tup (k := 0) (sub1 _ ha) rfl (by decide) (pu_name W rfl) pu_int) pu_str) (by simp only [RK.word]; decide)) fun Q3 C3 => ?_
        refine go_assign W (P := Is (IntV (((if ans mk then row + 1 else tg : Nat) : Nat) : Int)) ((I, o1) :: (F, lstO vs1 nF) :: l)) ?_ ?_
        · have tst : ∀ pos test e2 e3, Ts c' _ _ test (ans mk) → Pu c' _ _ e2 (IntV (((row + 1 : Nat)) : Int)) → Pu c' _ _ e3 (IntV (tg : Int)) → Ev c' (upd (upd m1 (Str.ofString "turn") (.int (0 + (i : Int)) tv)) (Str.ofString "statement") (.ref a)) ((I, o1) :: (F, lstO vs1 nF) :: l) (.IfExp test e2 e3 pos) (Is (IntV (((if ans mk then row + 1 else tg : Nat) : Nat) : Int)) ((I, o1) :: (F, lstO vs1 nF) :: l)) := fun pos test e2 e3 ht h2 h3 => by
            cases hm : ans mk with
            | true => rw [hm] at ht; exact ev_if_t ht h2
            | false => rw [hm] at ht; exact ev_if_f ht h3
          exact tst _ _ _ _ (ts_val (pu_item (sub1 _ ha1) (a := (mk : Int)) (Int.natCast_nonneg _) (by rw [Int.toNat_natCast]; exact ha4 mk hma) (Int.ofNat_lt.mpr (Nat.lt_trans hma (big_of ha2))) (pu_name W ma) (pi_tup (k := 1) (sub1 _ hq) rfl (by decide) (pu_tup (k := 1) (sub1 _ ha) rfl (by decide) (pu_name W rfl) pu_int) pu_int))) (Pu.as (pu_add (pi_name W mr) pu_int) rfl) (pi_tup (k := 2) (sub1 _ ha) rfl (by decide) (pu_name W rfl) pu_int)
        rintro _ _ ⟨⟨t9, rfl⟩, rfl⟩
        exact go_nil (C3.nx _ _ (go_nil (C.nx _ _ (nxt _ _ k _ vs2 _ t9 ⟨mf, ml, ma, mo⟩ rfl h' he (Nat.le_trans (Nat.le_of_eq (Nat.succ_add k i).symm) hk1) (Nat.le_succ_of_le hv1)))))
    · have h2 : vs2 = [] := by
        cases hG1 with
        | out _ => rfl
        | stop _ _ => rfl
        | leaf h _ => rw [hr9] at h; cases h; exact absurd rfl hne
        | jump h _ => rw [hr9] at h; cases h; exact absurd rfl hne
        | ifnot h _ _ => rw [hr9] at h; cases h; exact absurd rfl hne
      refine go_if_t (ts_or_f (Ts.as (ts_int rfl (pi_name W mr) (pu_len W hr1 hz6 (pu_rows W.toOk hf1 (pu_name W mf)))) (by simp; exact hrl)) (ts_or_t (Ts.as (ts_int rfl (pi_tup (k := 0) (sub1 _ hb) rfl (by decide) (pu_item hr1 (a := (row : Int)) (Int.natCast_nonneg _) (by rw [Int.toNat_natCast]; exact hv9) hr6 (pu_rows W.toOk hf1 (pu_name W mf)) (pi_name W mr)) pu_int) (pi_name W ml)) (by simp [hne])))) fun Q2 C => go_ret (pu_name W mo) ?_
      rintro _ _ ⟨rfl, rfl⟩
      exact C.rt _ _ _ (hend h2)
  · rintro m1 l1 ⟨row, k, vs1, vs2, nF, tr, ⟨mf, ml, ma, mo⟩, mr, rfl, hG1, he, hk1, hv1⟩
    rw [hlen] at hk1
    exact absurd (Nat.le_trans (Nat.le_add_left _ _) hk1) (Nat.not_succ_le_self _)
end
noncomputable def RK.nx : RK → Nat
  | .leaf _ (.next k) => k
  | _ => 0
noncomputable def closeOf (wd : Str) : Option Str := if wd = Str.ofString "WHILE" then some (Str.ofString "WEND") else if wd = Str.ofString "DEFLINES" then some (Str.ofString "FNEND") else none
theorem close_val (t1 t2 : Tok) (wd : Str) : (∃ cl t, closeOf wd = some cl ∧ valueAt [(Str.ofString "WHILE", Value.str (Str.ofString "WEND") t1), (Str.ofString "DEFLINES", Value.str (Str.ofString "FNEND") t2)] wd = some (.str cl t)) ∨ (closeOf wd = none ∧ valueAt [(Str.ofString "WHILE", Value.str (Str.ofString "WEND") t1), (Str.ofString "DEFLINES", Value.str (Str.ofString "FNEND") t2)] wd = none) := by
  unfold closeOf valueAt
  by_cases h1 : wd = Str.ofString "WHILE"
  · exact .inl ⟨_, t1, by rw [if_pos h1], by simp [h1]⟩
  by_cases h2 : wd = Str.ofString "DEFLINES"
  · exact .inl ⟨_, t2, by rw [if_neg h1, if_pos h2], by simp [h2, show ¬ Str.ofString "WHILE" = Str.ofString "DEFLINES" by decide]⟩
  · exact .inr ⟨by rw [if_neg h1, if_neg h2], by simp [Ne.symm h1, Ne.symm h2]⟩
structure BS where
  d : Int
  ps : List (Int × Nat)
  ls : List (Int × (Nat × Nat))
noncomputable def bstepP (wd cl : Str) (at_ far : Nat) (w : Str) (s : BS) : BS :=
  ⟨s.d + (if w == wd then 1 else 0) - (if w == cl then 1 else 0), if s.d + (if w == wd then 1 else 0) - (if w == cl then 1 else 0) = 0 then putA (putA s.ps (at_ : Int) far) (far : Int) at_ else s.ps, s.ls⟩
noncomputable def RK.many (r : RK) : Nat := if r.word = Str.ofString "NEXT" then max 1 r.nx else 0
noncomputable def bstepF (at_ far : Nat) (r : RK) (s : BS) : BS :=
  ⟨s.d + (if r.word == Str.ofString "FOR" then 1 else 0) - r.many, s.ps, if s.d ≤ r.many then putA s.ls (at_ : Int) (far, (s.d - 1).toNat) else s.ls⟩
noncomputable def bone (wd : Str) (at_ far : Nat) (r : RK) (s : BS) : BS := match closeOf wd with
  | some cl => if 0 < s.d then bstepP wd cl at_ far r.word s else s
  | none => s
noncomputable def btwo (wd : Str) (at_ far : Nat) (r : RK) (s : BS) : BS := if wd = Str.ofString "FOR" ∧ 0 < s.d then bstepF at_ far r s else s
noncomputable def bin (wd : Str) (at_ : Nat) : Nat → BS → List (Int × RK) → BS
  | _, s, [] => s
  | far, s, r :: rs => bin wd at_ (far + 1) (btwo wd at_ far r.2 (bone wd at_ far r.2 s)) rs
noncomputable def bout : Nat → List (Int × Nat) × List (Int × (Nat × Nat)) → List (Int × RK) → List (Int × Nat) × List (Int × (Nat × Nat))
  | _, p, [] => p
  | i, p, r :: rs => bout (i + 1) ((bin r.2.word i (i + 1) ⟨1, p.1, p.2⟩ rs).ps, (bin r.2.word i (i + 1) ⟨1, p.1, p.2⟩ rs).ls) rs
inductive BSt (prog : Program) (w : World) (dP dL : Addr) (as : List Addr) (l9 : Led) (B : Nat) (ps : List (Int × Nat)) (ls : List (Int × (Nat × Nat))) : Led → Prop
  | mk {oP oL : Obj} {imm1 : Led} {kvP kvL : List (Int × Value)} : oP.IsDictOf (PySem.intKind prog w) kvP → oL.IsDictOf (PySem.intKind prog w) kvL → Two (KV NatV) kvP ps → Two (KV (PairV imm1)) kvL ls → kvP.length ≤ B → kvL.length ≤ B → (∀ p ∈ imm1, ∀ a ∈ as, p.1 ≠ a) →
      BSt prog w dP dL as l9 B ps ls ((dP, oP) :: (dL, oL) :: (imm1 ++ l9))
structure BNm (m : Nm) (o dP dL dC wD : Addr) : Prop where
  nf : m (Str.ofString "flat") = some (.ref o)
  np : m (Str.ofString "pairs") = some (.ref dP)
  nl : m (Str.ofString "loops") = some (.ref dL)
  nc : m (Str.ofString "closing") = some (.ref dC)
  nw : m (Str.ofString "words") = some (.ref wD)
structure BNi (m : Nm) (i : Nat) (tv : Tok) (wd : Str) (wt : Tok) : Prop where
  na : m (Str.ofString "at") = some (.int (i : Int) tv)
  nwd : m (Str.ofString "word") = some (.str wd wt)
theorem bel_num {i n j x : Nat} (hi : i < n) (hz : n < 300) (hj : j < n) (h : x ≤ 2 * (i * n) + 2 * j) : x + 1 < 1000000 := by
  have h1 : i * n ≤ 300 * 300 := Nat.mul_le_mul (Nat.le_trans (Nat.le_of_lt hi) (Nat.le_of_lt hz)) (Nat.le_of_lt hz)
  omega
theorem bel_num2 {i n : Nat} (hi : i < n) : 2 * (i * n) + 2 * (n - (i + 1)) ≤ 2 * ((i + 1) * n) := by rw [Nat.add_mul]; omega
theorem bel_num3 {x B j : Nat} (h : x ≤ B + 2 * j) : x ≤ B + 2 * (j + 1) := Nat.le_trans h (Nat.add_le_add_left (Nat.mul_le_mul_left _ (Nat.le_succ _)) _)
section
variable {prog : Program} {w : World}
set_option maxRecDepth 100000 in
set_option maxHeartbeats 8000000 in
theorem bel_call {c : Wc prog w} {sc : Scope} {m : Nm} {l : Led} {f : FA} {its : List Value} {rows : List (Int × RK)} {n : Nat} (W : c.Ok sc) (hf : FlatIn w.params f l) (hr : (f.rows, lstO its n) ∈ l) (hR : RowsL l its rows) (hz : rows.length < 300) (hnx : ∀ ln v k, (ln, RK.leaf v (.next k)) ∈ rows → k < 1000) (hdp : c.dp + 20 < recursionLimit) (hun : c.un + 200 < cLine) :
    Tr c m l (call (.ref 182) [.ref f.o]) (fun v l' => ∃ T dP dL l1 l9 B, v = .ref T ∧ (∀ p ∈ (T, tupO [.ref dP, .ref dL]) :: (l1 ++ l), p ∈ l') ∧ BSt prog w dP dL [dP, dL] l9 B (bout 0 ([], []) rows).1 (bout 0 ([], []) rows).2 l1 ∧ (dP == sysModules) = false ∧ (dL == sysModules) = false) := by
  refine' tr_def (binds := [(Str.ofString "flat", .ref f.o)]) W ?ho ?hcd ?hr ?hb ?hl ?h1 ?h2 ?h3 ?h4 ?_
  (case ho => k_is)
  (case hcd => k_is)
  (case hr => exact Nat.lt_of_le_of_lt (Nat.le_add_right _ _) hdp)
  (case hb => exact rfl)
  (case hl => exact locs rfl)
  (case h1 => exact rfl)
  (case h2 => exact rfl)
  (case h3 => exact rfl)
  (case h4 => decide)
  clear W
  intro c' Q W hd hu hret _
  have hlen := hR.length
  refine go_pairs W (P2 := fun _ _ => True) (ev_dict0 W.toOk) ?_
  rintro _ _ ⟨dP, oP, rfl, rfl, hdP, loP, hoP, _⟩
  refine Tr.mono (ev_dict0 W.toOk) ?_
  rintro _ _ ⟨dL, oL, rfl, rfl, hdL, loL, hoL, _⟩
  refine ⟨trivial, ?_⟩
  refine go_assign W (ev_dict2 W.toOk (by decide +kernel)) ?_
  rintro _ _ ⟨dC, oC, t1, t2, rfl, rfl, hdC, loC, hoC⟩
  refine go_comp W (J := fun i ys l1 => l1 = (dC, oC) :: (dL, oL) :: (dP, oP) :: l ∧ Two (fun v (r : Int × RK) => StV r.2.word v) ys (rows.take i)) (cl := []) ?_ ?_ ?_ ?_ (src_list (k9 := n) ?_ (.tail _ (.tail _ (.tail _ hr)))) ?_ ?_ (.tail _ (.tail _ (.tail _ hr))) ?_ ?_
  · exact rfl
  · decide
  · exact rfl
  · decide
  · exact pu_rows W.toOk (hf.mono fun _ h => .tail _ (.tail _ (.tail _ h))) (pu_name W rfl)
  · exact hlen ▸ Nat.lt_trans hz (by decide)
  · exact ⟨rfl, .nil⟩
  · rintro i v ex own l1 ys C D hi ⟨rfl, hys⟩ hlo ⟨rfl, hv⟩ offC offD apO ownD
    have row9 : ∃ r, rows[i]? = some r ∧ RowAt l r.1 v r.2 := by
      obtain ⟨v', r, hv1, hr9, hR9⟩ := two_get hR (i := i) (hlen ▸ hi)
      rw [hv] at hv1
      cases hv1
      exact ⟨r, hr9, hR9⟩
    obtain ⟨r, hr9, b, a, t, kk, rest, rfl, hb, ha, htl⟩ := row9
    have sub : ∀ p ∈ l, p ∈ ([] : Led) ++ (own ++ (D, lst9 ys) :: ((dC, oC) :: (dL, oL) :: (dP, oP) :: l)) := fun p h => List.mem_append_right _ (List.mem_append_right _ (.tail _ (.tail _ (.tail _ (.tail _ h)))))
    refine ⟨fun m2 => m2 (Str.ofString "line") = some (.int r.1 t) ∧ m2 (Str.ofString "statement") = some (.ref a), cas_pair rfl rfl rfl (by decide +kernel) (sub _ hb), ?_⟩
    rintro oC' m2 hN ⟨_, h2⟩
    refine Tr.mono (ps_tup (k := 0) (.tail _ (sub _ ha)) rfl (by decide) (pc_own W rfl (.head _) hN h2) pu_int) ?_
    rintro y _ ⟨⟨t9, rfl⟩, rfl⟩
    refine ⟨_, fun p h => h, fun p h => ⟨offC p (List.mem_append_right _ (List.mem_append_right _ (.tail _ h))), offD p h⟩, apO, hlo, rfl, ?_⟩
    rw [List.take_add_one, hr9]
    exact hys.append (.cons ⟨t9, rfl⟩ .nil)
  rintro wD ys _ ⟨rfl, hys⟩ hwD
  rw [hlen, List.take_length] at hys
  have hwl : ys.length = rows.length := hys.length
  obtain ⟨l9, hl9e⟩ : ∃ l9 : Led, l9 = (wD, lst9 ys) :: (dC, oC) :: l := ⟨_, rfl⟩
  have hw9 : (wD, lst9 ys) ∈ l9 := hl9e ▸ .head _
  have hc9 : (dC, oC) ∈ l9 := hl9e ▸ .tail _ (.head _)
  have hl9 : ∀ p ∈ l, p ∈ l9 := fun p h => hl9e ▸ .tail _ (.tail _ h)
  have hPL : dP ≠ dL := Nat.ne_of_lt hdL.1
  have off9 : ∀ p ∈ l9, p.1 ≠ dP ∧ p.1 ≠ dL := by
    rw [hl9e]
    exact List.forall_mem_cons.mpr ⟨⟨(hwD _ (.tail _ (.tail _ (.head _)))).symm, (hwD _ (.tail _ (.head _))).symm⟩, List.forall_mem_cons.mpr ⟨⟨Nat.ne_of_gt hdC.2.1, Nat.ne_of_gt hdC.1⟩, fun p h => ⟨Nat.ne_of_lt (allLt_iff.mp hdP p h), Nat.ne_of_lt (allLt_iff.mp hdL.2 p h)⟩⟩⟩
  refine Go.sub (l' := (dP, oP) :: (dL, oL) :: ([] ++ l9)) ?_ (by
    rw [hl9e]
    exact List.forall_mem_cons.mpr ⟨.tail _ (.tail _ (.tail _ (.head _))), List.forall_mem_cons.mpr ⟨.tail _ (.tail _ (.head _)), List.forall_mem_cons.mpr ⟨.head _, List.forall_mem_cons.mpr ⟨.tail _ (.head _), fun p h => .tail _ (.tail _ (.tail _ (.tail _ h)))⟩⟩⟩⟩)
  clear hl9e
  refine go_forE W (items := ys) (k9 := ys.length) (fun i r m1 l1 => BNm m1 f.o dP dL dC wD ∧ r = ys.drop i ∧
      ∃ ps ls, BSt prog w dP dL [dP, dL] l9 (2 * (i * rows.length)) ps ls l1 ∧ bout i (ps, ls) (rows.drop i) = bout 0 ([], []) rows) (pu_name W rfl) (.tail _ (.tail _ hw9)) ⟨⟨rfl, rfl, rfl, rfl, rfl⟩, rfl, [], [], .mk hoP hoL .nil .nil (Nat.zero_le _) (Nat.zero_le _) (fun _ h => nomatch h), rfl⟩ ?_ ?_ ?_
  · rintro i r m1 l1 ⟨_, _, ps, ls, hB, _⟩
    cases hB
    exact .tail _ (.tail _ (List.mem_append_right _ hw9))
  · rintro i v r m1 l1 T tv e9 oe it9 oi Q' ⟨⟨nf, np, nl, nc, nw⟩, hr1, ps, ls, hB, he⟩ oe9 oi9 hT T9
    have hi : i < rows.length := Nat.lt_of_not_le fun h => by rw [List.drop_eq_nil_of_le (hwl ▸ h)] at hr1; cases hr1
    have hiy : i < ys.length := hwl.symm ▸ hi
    rw [List.drop_eq_getElem_cons hiy] at hr1
    injection hr1 with hv hr1
    obtain ⟨wt, hwt⟩ : StV rows[i].2.word ys[i] := by
      obtain ⟨a, b, ha, hb, hh⟩ := two_get hys (i := i) hi
      rw [List.getElem?_eq_getElem hiy] at ha
      rw [List.getElem?_eq_getElem hi] at hb
      cases ha; cases hb
      exact hh
    subst hv
    refine gt_pair W (.head _) ?_
    refine go_assign W pu_int ?_
    rintro _ _ ⟨⟨td, rfl⟩, rfl⟩
    generalize hwd : rows[i].2.word = wd at hwt
    have he' : bout i (ps, ls) (rows.drop i) = bout (i + 1) ((bin wd i (i + 1) ⟨1, ps, ls⟩ (rows.drop (i + 1))).ps, (bin wd i (i + 1) ⟨1, ps, ls⟩ (rows.drop (i + 1))).ls) (rows.drop (i + 1)) := by
      rw [List.drop_eq_getElem_cons hi, bout, hwd]
    rw [he'] at he
    clear he'
    obtain ⟨l9', hl9e⟩ : ∃ l9' : Led, l9' = (e9, oe) :: (it9, oi) :: l9 := ⟨_, rfl⟩
    have hsub9 : ∀ p ∈ l9, p ∈ l9' := fun p h => hl9e ▸ .tail _ (.tail _ h)
    cases hB with
    | mk hP1 hL1 tP1 tL1 bP1 bL1 off1 =>
    rename_i oP1 oL1 imm1 kvP1 kvL1
    have hPe : dP ≠ e9 := oe9 _ (.head _)
    have hPi : dP ≠ it9 := oi9 _ (.head _)
    have hLe : dL ≠ e9 := oe9 _ (.tail _ (.head _))
    have hLi : dL ≠ it9 := oi9 _ (.tail _ (.head _))
    have off9' : ∀ p ∈ l9', p.1 ≠ dP ∧ p.1 ≠ dL := by
      rw [hl9e]
      exact List.forall_mem_cons.mpr ⟨⟨hPe.symm, hLe.symm⟩, List.forall_mem_cons.mpr ⟨⟨hPi.symm, hLi.symm⟩, off9⟩⟩
    have hei : (e9, oe) ∈ l9' := hl9e ▸ .head _
    have hii : (it9, oi) ∈ l9' := hl9e ▸ .tail _ (.head _)
    refine Go.sub (l' := (dP, oP1) :: (dL, oL1) :: (imm1 ++ l9')) ?_ (by
      rw [hl9e]
      exact List.forall_mem_cons.mpr ⟨.tail _ (.tail _ (.tail _ (.head _))), List.forall_mem_cons.mpr ⟨.tail _ (.tail _ (.tail _ (.tail _ (.head _)))), List.forall_mem_append.mpr ⟨fun p h => .tail _ (.tail _ (.tail _ (.tail _ (.tail _ (List.mem_append_left _ h))))), List.forall_mem_cons.mpr ⟨.tail _ (.head _), List.forall_mem_cons.mpr ⟨.tail _ (.tail _ (.head _)), fun p h => .tail _ (.tail _ (.tail _ (.tail _ (.tail _ (List.mem_append_right _ h)))))⟩⟩⟩⟩⟩)
    refine go_forR W (a := (i : Int) + 1) (n := rows.length - (i + 1)) (fun j m2 l2 => BNm m2 f.o dP dL dC wD ∧ BNi m2 i tv wd wt ∧
      ∃ s td, m2 (Str.ofString "deep") = some (.int s.d td) ∧ BSt prog w dP dL [dP, dL, e9, it9] l9' (2 * (i * rows.length) + 2 * j) s.ps s.ls l2 ∧ bin wd i (i + 1 + j) s (rows.drop (i + 1 + j)) = bin wd i (i + 1) ⟨1, ps, ls⟩ (rows.drop (i + 1)))
      (ev_range2 W (n := rows.length - (i + 1)) (a := (i : Int) + 1) (b := (rows.length : Int)) (by omega) (pu_add (pi_name W rfl) pu_int) (Pu.as (pu_len W (.tail _ (.tail _ (List.mem_append_right _ (hsub9 _ hw9)))) (hwl ▸ Nat.lt_trans hz (by decide)) (pu_name W nw)) (by rw [hwl]))) (by omega) (by omega) (by omega)
      ⟨⟨nf, np, nl, nc, nw⟩, ⟨rfl, hwt ▸ rfl⟩, ⟨1, ps, ls⟩, td, rfl, .mk hP1 hL1 tP1 tL1 bP1 bL1 (fun p hp => List.forall_mem_cons.mpr ⟨off1 p hp dP (.head _), List.forall_mem_cons.mpr ⟨off1 p hp dL (.tail _ (.head _)), List.forall_mem_cons.mpr ⟨oe9 p (.tail _ (.tail _ (List.mem_append_left _ hp))), List.forall_mem_cons.mpr ⟨oi9 p (.tail _ (.tail _ (List.mem_append_left _ hp))), fun _ h => nomatch h⟩⟩⟩⟩), rfl⟩ ?_ ?_
    · rintro j tv2 m2 l2 I oI Q2 hj ⟨⟨nf, np, nl, nc, nw⟩, ⟨na, nwd⟩, s, td2, nd, hB2, hs⟩ hI T2
      obtain ⟨far, hfe⟩ : ∃ far, far = i + 1 + j := ⟨_, rfl⟩
      have hfl : far < rows.length := hfe ▸ Nat.add_lt_of_lt_sub' hj
      have hfy : far < ys.length := hwl.symm ▸ hfl
      have hf6 : (far : Int) < 1000000 := Int.ofNat_lt.mpr (Nat.lt_trans hfl (Nat.lt_trans hz (by decide)))
      obtain ⟨v9, r9, hv9, hr9, b, a, t, kk, rest, rfl, hb, ha, htl⟩ : ∃ v r, its[far]? = some v ∧ rows[far]? = some r ∧ RowAt l r.1 v r.2 := by
        obtain ⟨v', r, hv1, hr9, hR9⟩ := two_get hR (i := far) hfl
        exact ⟨v', r, hv1, hr9, hR9⟩
      obtain ⟨wf, hwf⟩ : StV r9.2.word ys[far] := by
        obtain ⟨a, b, ha, hb, hh⟩ := two_get hys (i := far) hfl
        rw [List.getElem?_eq_getElem hfy] at ha
        rw [hr9] at hb
        cases ha; cases hb
        exact hh
      have hwf' : ys[far]? = some (.str r9.2.word wf) := by rw [List.getElem?_eq_getElem hfy, hwf]
      have hdr : rows.drop far = r9 :: rows.drop (far + 1) := by
        rw [List.drop_eq_getElem_cons hfl]
        rw [List.getElem?_eq_getElem hfl] at hr9
        cases hr9; rfl
      rw [← hfe, hdr, bin] at hs
      have hfi : ((i : Int) + 1 + (j : Int)) = (far : Int) := by rw [hfe]; rfl
      rw [hfi]
      refine gt_name W ?_
      cases hB2 with
      | mk hP2 hL2 tP2 tL2 bP2 bL2 off2 =>
      rename_i oP2 oL2 imm2 kvP2 kvL2
      have hIP : dP ≠ I := hI _ (.head _)
      have hIL : dL ≠ I := hI _ (.tail _ (.head _))
      have hcl := close_val t1 t2 wd
      have offP : ∀ p ∈ imm2 ++ l9', p.1 ≠ dP := List.forall_mem_append.mpr ⟨fun p hp => off2 p hp dP (.head _), fun p hp => (off9' p hp).1⟩
      have offL : ∀ p ∈ imm2 ++ l9', p.1 ≠ dL := List.forall_mem_append.mpr ⟨fun p hp => off2 p hp dL (.tail _ (.head _)), fun p hp => (off9' p hp).2⟩
      have lup : ∀ {x y z : Addr × Obj}, ∀ p ∈ l9', p ∈ x :: y :: z :: (imm2 ++ l9') := fun p h => .tail _ (.tail _ (.tail _ (List.mem_append_right _ h)))
      have hjr : j < rows.length := Nat.lt_of_lt_of_le hj (Nat.sub_le _ _)
      have hk2 := bel_num hi hz hjr bP2
      have hk3 := bel_num hi hz hjr bL2
      refine go_join (bb := decide ((closeOf wd).isSome = true ∧ 0 < s.d)) (fun m3 l3 => BNm m3 f.o dP dL dC wD ∧ BNi m3 i tv wd wt ∧ m3 (Str.ofString "far") = some (.int (far : Int) tv2) ∧
        ∃ td3 oP3 kvP3, m3 (Str.ofString "deep") = some (.int (bone wd i far r9.2 s).d td3) ∧ l3 = (I, oI) :: (dP, oP3) :: (dL, oL2) :: (imm2 ++ l9') ∧ oP3.IsDictOf (PySem.intKind prog w) kvP3 ∧ Two (KV NatV) kvP3 (bone wd i far r9.2 s).ps ∧ kvP3.length ≤ 2 * (i * rows.length) + 2 * (j + 1) ∧ (bone wd i far r9.2 s).ls = s.ls)
        (Ts.as (ts_and2 (ts_inS (ps_name W nwd) (pu_name W nc) (lup _ (hsub9 _ hc9)) hoC loC) (ts_int rfl (pi_name W nd) pu_int)) ?_) ?_ ?_ ?_
      · rcases hcl with ⟨cl, tc, h1, h2⟩ | ⟨h1, h2⟩
        · rw [h1, h2]; simp
        · rw [h1, h2]; simp
      · intro hb0 Q3 hmid
        obtain ⟨hc0, hd0⟩ := of_decide_eq_true hb0
        rcases hcl with ⟨cl, tc, h1, h2⟩ | ⟨h1, h2⟩
        · have hbone : bone wd i far r9.2 s = bstepP wd cl i far r9.2.word s := by unfold bone; rw [h1]; simp only [if_pos hd0]
          refine go_assign W (pu_subt (pu_add (pi_name W nd) (pu_intb W (pu_eqs (ps_item (lup _ (hsub9 _ hw9)) (a := (far : Int)) (Int.natCast_nonneg _) (by rw [Int.toNat_natCast]; exact hwf') hf6 (pu_name W nw) (pi_name W rfl)) (ps_name W nwd)))) (pu_intb W (pu_eqs (ps_item (lup _ (hsub9 _ hw9)) (a := (far : Int)) (Int.natCast_nonneg _) (by rw [Int.toNat_natCast]; exact hwf') hf6 (pu_name W nw) (pi_name W rfl)) (ps_dictS (pu_name W nc) (ps_name W nwd) (lup _ (hsub9 _ hc9)) hoC h2)))) ?_
          rintro _ _ ⟨⟨td3, rfl⟩, rfl⟩
          by_cases hz0 : s.d + (if r9.2.word == wd then 1 else 0) - (if r9.2.word == cl then 1 else 0) = 0
          · refine go_if_t (Ts.as (ts_int rfl (pi_name W rfl) pu_int) (by simpa using hz0)) fun Q4 C4 => ?_
            refine go_set2 (R1 := Eqv (.int (far : Int) tv2)) (R2 := Eqv (.int (i : Int) tv)) (D := dP) (o := oP2) (kvs := kvP2) (a := (i : Int)) (b := (far : Int)) W (pu_name W rfl) (pu_name W na) ?_
            rintro T3 _ _ hT3 rfl rfl
            have hT3P : T3 ≠ dP := Nat.ne_of_gt hT3.2.1
            refine ⟨_, pu_name W np, pi_name W na, hP2, hk2, .tail hT3P (.tail hIP.symm (.head (List.forall_mem_cons.mpr ⟨hPL.symm, offP⟩))), fun o1' ho1' => ⟨_, pu_name W np, pi_name W rfl, .tail hT3P (.tail hIP.symm (.head (List.forall_mem_cons.mpr ⟨hPL.symm, offP⟩))), fun o2' ho2' => ?_⟩⟩
            refine go_nil (C4.nx _ _ (go_nil (End.sub (hmid _ _ ⟨⟨nf, np, nl, nc, nw⟩, ⟨na, nwd⟩, rfl, td3, o2', _, by rw [hbone]; rfl, rfl, ho2', ?_, ?_, by rw [hbone]; rfl⟩) fun p h => .tail _ h)))
            · rw [hbone]
              show Two (KV NatV) _ (if _ then _ else _)
              rw [if_pos hz0]
              exact kv_stored (kv_stored tP2 ⟨tv2, rfl⟩) ⟨tv, rfl⟩
            · have e1 := stored_le kvP2 (i : Int) (.int (far : Int) tv2)
              have e2 := stored_le (stored kvP2 (i : Int) (.int (far : Int) tv2)) (far : Int) (.int (i : Int) tv)
              exact Nat.le_trans e2 (Nat.succ_le_succ (Nat.le_trans e1 (Nat.succ_le_succ bP2)))
          · refine go_skip (Ts.as (ts_int rfl (pi_name W rfl) pu_int) (by simpa using hz0)) ?_
            refine go_nil (hmid _ _ ⟨⟨nf, np, nl, nc, nw⟩, ⟨na, nwd⟩, rfl, td3, oP2, kvP2, by rw [hbone]; rfl, rfl, hP2, ?_, bel_num3 bP2, by rw [hbone]; rfl⟩)
            rw [hbone]
            show Two (KV NatV) _ (if _ then _ else _)
            rw [if_neg hz0]
            exact tP2
        · rw [h1] at hc0; cases hc0
      · intro hb0 Q3 hmid
        have hbone : bone wd i far r9.2 s = s := by
          have hb1 := of_decide_eq_false hb0
          unfold bone
          cases hcw : closeOf wd with
          | none => rfl
          | some cl =>
            rw [hcw] at hb1
            simp only [Option.isSome_some, true_and] at hb1
            simp only [if_neg hb1]
        exact go_nil (hmid _ _ ⟨⟨nf, np, nl, nc, nw⟩, ⟨na, nwd⟩, rfl, td2, oP2, kvP2, by rw [hbone]; exact nd, rfl, hP2, by rw [hbone]; exact tP2, bel_num3 bP2, by rw [hbone]⟩)
      · rintro m3 _ ⟨⟨nf, np, nl, nc, nw⟩, ⟨na, nwd⟩, nfar, td3, oP3, kvP3, nd3, rfl, hP3, tP3, bP3, hls⟩
        clear nd hP2 tP2 bP2 hk2
        generalize bone wd i far r9.2 s = s3 at *
        rw [← hls] at tL2
        clear hls
        refine go_join (bb := decide (wd = Str.ofString "FOR" ∧ 0 < s3.d)) (fun m4 l4 => BNm m4 f.o dP dL dC wD ∧ BNi m4 i tv wd wt ∧
          ∃ td4 l5, m4 (Str.ofString "deep") = some (.int (btwo wd i far r9.2 s3).d td4) ∧ l4 = (I, oI) :: l5 ∧ (∀ p ∈ l5, p.1 ≠ I) ∧ BSt prog w dP dL [dP, dL, e9, it9] l9' (2 * (i * rows.length) + 2 * (j + 1)) (btwo wd i far r9.2 s3).ps (btwo wd i far r9.2 s3).ls l5)
          (Ts.as (ts_and2 (ts_eqs (ps_name W nwd) pu_str) (ts_int rfl (pi_name W nd3) pu_int)) (by by_cases h : wd = Str.ofString "FOR" <;> simp [h])) ?_ ?_ ?_
        · intro hb0 Q3 hmid
          obtain ⟨hwF, hd0⟩ := of_decide_eq_true hb0
          have htwo : btwo wd i far r9.2 s3 = bstepF i far r9.2 s3 := by unfold btwo; rw [if_pos ⟨hwF, hd0⟩]
          have rowE : ∀ (m9 : Nm), m9 (Str.ofString "flat") = some (.ref f.o) → m9 (Str.ofString "far") = some (.int (far : Int) tv2) → ∀ {p1 p2 p3 p4 : Pos}, Pu c' m9 ((I, oI) :: (dP, oP3) :: (dL, oL2) :: (imm2 ++ l9')) (.Subscript (.Attribute (.Name (Str.ofString "flat") p1) (Str.ofString "rows") p2) (.Name (Str.ofString "far") p3) p4) (Eqv (.ref b)) := fun m9 h1 h2 {p1 p2 p3 p4} =>
            pu_item (lup _ (hsub9 _ (hl9 _ hr))) (a := (far : Int)) (Int.natCast_nonneg _) (by rw [Int.toNat_natCast]; exact hv9) hf6 (pu_rows W.toOk (hf.mono fun p h => lup _ (hsub9 _ (hl9 _ h))) (pu_name W h1)) (pi_name W h2)
          refine go_assign W (P := Is (IntV (r9.2.many : Int)) ((I, oI) :: (dP, oP3) :: (dL, oL2) :: (imm2 ++ l9'))) ?_ ?_
          · by_cases hN : r9.2.word = Str.ofString "NEXT"
            · obtain ⟨vN, kN, hN2⟩ := is_next hN
              rw [hN2] at htl
              obtain ⟨_, bN, nN, itN, rfl, hbN, hlN⟩ := htl
              refine ev_if_t (Ts.as (ts_eqs (ps_item (lup _ (hsub9 _ hw9)) (a := (far : Int)) (Int.natCast_nonneg _) (by rw [Int.toNat_natCast]; exact hwf') hf6 (pu_name W nw) (pi_name W nfar)) pu_str) (by rw [hN]; decide)) ?_
              have hk1000 : itN.length < 1000 := hlN ▸ hnx r9.1 vN kN (by rw [← hN2]; exact List.mem_of_getElem? hr9)
              refine Pu.as (pu_max W pu_int (pu_len W (lup _ (hsub9 _ (hl9 _ hbN))) (Nat.lt_trans hk1000 (by decide)) (pu_tup (k := 1) (lup _ (hsub9 _ (hl9 _ ha))) rfl (by decide) (pu_tup (k := 1) (lup _ (hsub9 _ (hl9 _ hb))) rfl (by decide) (rowE _ nf nfar) pu_int) pu_int))) ?_
              have hm : r9.2.many = max 1 kN := by unfold RK.many; rw [if_pos hN, hN2]; rfl
              rw [hm, hlN]
              split <;> omega
            · have hm : r9.2.many = 0 := by unfold RK.many; rw [if_neg hN]
              rw [hm]
              exact ev_if_f (Ts.as (ts_eqs (ps_item (lup _ (hsub9 _ hw9)) (a := (far : Int)) (Int.natCast_nonneg _) (by rw [Int.toNat_natCast]; exact hwf') hf6 (pu_name W nw) (pi_name W nfar)) pu_str) (by simp [hN])) pu_int
          rintro _ _ ⟨⟨tm, rfl⟩, rfl⟩
          refine go_join (bb := decide (s3.d ≤ (r9.2.many : Int))) (fun m5 l5 => m5 = upd m3 (Str.ofString "many") (.int (r9.2.many : Int) tm) ∧ ∃ oL5 kvL5 imm5, l5 = (I, oI) :: (dP, oP3) :: (dL, oL5) :: (imm5 ++ l9') ∧ oL5.IsDictOf (PySem.intKind prog w) kvL5 ∧ Two (KV (PairV imm5)) kvL5 (bstepF i far r9.2 s3).ls ∧ kvL5.length ≤ 2 * (i * rows.length) + 2 * (j + 1) ∧ (∀ p ∈ imm5, ∀ a ∈ [dP, dL, e9, it9], p.1 ≠ a) ∧ (∀ p ∈ imm5, p.1 ≠ I))
            (ts_int rfl (pi_name W rfl) (pi_name W nd3)) ?_ ?_ ?_
          · intro hb1 Q4 hmid4
            have hle := of_decide_eq_true hb1
            refine go_setDP (a := (i : Int)) (P9 := fun v l' => ∃ T3 tz, v = .ref T3 ∧ l' = (T3, tupO [.int (far : Int) tv2, .int (s3.d - 1) tz]) :: (I, oI) :: (dP, oP3) :: (dL, oL2) :: (imm2 ++ l9') ∧ AllLt T3 ((I, oI) :: (dP, oP3) :: (dL, oL2) :: (imm2 ++ l9'))) (ev_tup (P1 := fun as l' => ∃ tz, as = [.int (far : Int) tv2, .int (s3.d - 1) tz] ∧ l' = (I, oI) :: (dP, oP3) :: (dL, oL2) :: (imm2 ++ l9')) (ar_cons (pu_name W nfar) ?_) ?_) ?_
            · rintro _ _ ⟨rfl, rfl⟩
              refine ar_cons (pu_subt (pi_name W nd3) pu_int) ?_
              rintro _ _ ⟨⟨tz, rfl⟩, rfl⟩
              exact ar_nil ⟨tz, rfl, rfl⟩
            · rintro _ _ ⟨tz, rfl, rfl⟩
              exact ⟨Nat.le_of_ble_eq_true rfl, fun D hD => ⟨D, tz, rfl, rfl, hD⟩⟩
            rintro _ _ ⟨T3, tz, rfl, rfl, hT3⟩
            have h3I : T3 ≠ I := Nat.ne_of_gt hT3.1
            have h3P : T3 ≠ dP := Nat.ne_of_gt hT3.2.1
            have h3L : T3 ≠ dL := Nat.ne_of_gt hT3.2.2.1
            have h3r := allLt_iff.mp hT3.2.2.2
            refine ⟨dL, oL2, kvL2, _, pu_name W nl, pi_name W na, hL2, Nat.lt_of_succ_lt hk3, .tail h3L (.tail hIL.symm (.tail hPL (.head offL))), fun o5 ho5 => ?_⟩
            refine go_nil (End.sub (hmid4 _ _ ⟨rfl, o5, _, (T3, tupO [.int (far : Int) tv2, .int (s3.d - 1) tz]) :: imm2, rfl, ho5, ?_, ?_, ?_, ?_⟩) ?_)
            · show Two (KV (PairV _)) _ (if _ then _ else _)
              rw [if_pos hle]
              refine kv_stored (tL2.mono fun a b h => ⟨h.1, h.2.mono fun _ h => .tail _ h⟩) ⟨T3, tv2, tz, rfl, ?_⟩
              have : (((s3.d - 1).toNat : Nat) : Int) = s3.d - 1 := Int.toNat_of_nonneg (Int.sub_nonneg_of_le hd0)
              show (T3, tupO [.int (far : Int) tv2, .int (((s3.d - 1).toNat : Nat) : Int) tz]) ∈ _
              rw [this]
              exact .head _
            · exact Nat.le_trans (stored_le kvL2 (i : Int) (.ref T3)) (Nat.succ_le_succ (Nat.le_succ_of_le bL2))
            · exact List.forall_mem_cons.mpr ⟨List.forall_mem_cons.mpr ⟨h3P, List.forall_mem_cons.mpr ⟨h3L, List.forall_mem_cons.mpr ⟨Nat.ne_of_gt (h3r _ (List.mem_append_right _ hei)), List.forall_mem_cons.mpr ⟨Nat.ne_of_gt (h3r _ (List.mem_append_right _ hii)), fun _ h => nomatch h⟩⟩⟩⟩, off2⟩
            · exact List.forall_mem_cons.mpr ⟨h3I, fun p hp => hI p (.tail _ (.tail _ (List.mem_append_left _ hp)))⟩
            · exact List.forall_mem_cons.mpr ⟨.tail _ (.head _), List.forall_mem_cons.mpr ⟨.tail _ (.tail _ (.head _)), List.forall_mem_cons.mpr ⟨.tail _ (.tail _ (.tail _ (.head _))), List.forall_mem_cons.mpr ⟨.head _, fun p h => .tail _ (.tail _ (.tail _ (.tail _ h)))⟩⟩⟩⟩
          · intro hb1 Q4 hmid4
            have hle := of_decide_eq_false hb1
            refine go_nil (hmid4 _ _ ⟨rfl, oL2, kvL2, imm2, rfl, hL2, ?_, bel_num3 bL2, off2, fun p hp => hI p (.tail _ (.tail _ (List.mem_append_left _ hp)))⟩)
            show Two (KV (PairV _)) _ (if _ then _ else _)
            rw [if_neg hle]
            exact tL2
          · rintro _ _ ⟨rfl, oL5, kvL5, imm5, rfl, hL5, tL5, bL5, off5, offI5⟩
            refine go_assign W (pu_subt (pu_add (pi_name W nd3) (pu_intb W (pu_eqs (ps_item (.tail _ (.tail _ (.tail _ (List.mem_append_right _ (hsub9 _ hw9))))) (a := (far : Int)) (Int.natCast_nonneg _) (by rw [Int.toNat_natCast]; exact hwf') hf6 (pu_name W nw) (pi_name W nfar)) pu_str))) (pi_name W rfl)) ?_
            rintro _ _ ⟨⟨td5, rfl⟩, rfl⟩
            refine go_nil (hmid _ _ ⟨⟨nf, np, nl, nc, nw⟩, ⟨na, nwd⟩, td5, _, by rw [htwo]; rfl, rfl, List.forall_mem_cons.mpr ⟨hIP, List.forall_mem_cons.mpr ⟨hIL, List.forall_mem_append.mpr ⟨offI5, fun p hp => hI p (.tail _ (.tail _ (List.mem_append_right _ hp)))⟩⟩⟩, by rw [htwo]; exact .mk hP3 hL5 tP3 tL5 bP3 bL5 off5⟩)
        · intro hb0 Q3 hmid
          have htwo : btwo wd i far r9.2 s3 = s3 := by unfold btwo; rw [if_neg (of_decide_eq_false hb0)]
          exact go_nil (hmid _ _ ⟨⟨nf, np, nl, nc, nw⟩, ⟨na, nwd⟩, td3, _, by rw [htwo]; exact nd3, rfl, List.forall_mem_cons.mpr ⟨hIP, List.forall_mem_cons.mpr ⟨hIL, fun p hp => hI p (.tail _ (.tail _ hp))⟩⟩, by rw [htwo]; exact .mk hP3 hL2 tP3 tL2 bP3 (bel_num3 bL2) off2⟩)
        · rintro m4 _ ⟨⟨nf, np, nl, nc, nw⟩, ⟨na, nwd⟩, td4, l5, nd4, rfl, hI5, hB5⟩
          refine go_nil (T2.nx m4 l5 (apart_one hI5) ⟨⟨nf, np, nl, nc, nw⟩, ⟨na, nwd⟩, _, td4, nd4, hB5, ?_⟩)
          rw [show i + 1 + (j + 1) = far + 1 by rw [hfe]; rfl]
          exact hs
    · rintro m2 l2 ⟨⟨nf, np, nl, nc, nw⟩, ⟨na, _⟩, s, td, nd, hB2, hs⟩
      have e9' : i + 1 + (rows.length - (i + 1)) = rows.length := Nat.add_sub_cancel' hi
      rw [e9', List.drop_length, bin] at hs
      rw [← hs] at he
      cases hB2 with
      | mk hP2 hL2 tP2 tL2 bP2 bL2 off2 =>
      rename_i oP2 oL2 imm2 kvP2 kvL2
      have hN := bel_num2 hi
      refine go_nil (End.sub (T9.nx m2 ((dP, oP2) :: (dL, oL2) :: (imm2 ++ l9)) (apart_two (List.forall_mem_cons.mpr ⟨hPe, List.forall_mem_cons.mpr ⟨hLe, List.forall_mem_append.mpr ⟨fun p hp => off2 p hp e9 (.tail _ (.tail _ (.head _))), fun p hp => oe9 p (.tail _ (.tail _ (List.mem_append_right _ hp)))⟩⟩⟩) (List.forall_mem_cons.mpr ⟨hPi, List.forall_mem_cons.mpr ⟨hLi, List.forall_mem_append.mpr ⟨fun p hp => off2 p hp it9 (.tail _ (.tail _ (.tail _ (.head _)))), fun p hp => oi9 p (.tail _ (.tail _ (List.mem_append_right _ hp)))⟩⟩⟩)) ⟨⟨nf, np, nl, nc, nw⟩, hr1, s.ps, s.ls, .mk hP2 hL2 tP2 tL2 (Nat.le_trans bP2 hN) (Nat.le_trans bL2 hN) (fun p hp => List.forall_mem_cons.mpr ⟨off2 p hp dP (.head _), List.forall_mem_cons.mpr ⟨off2 p hp dL (.tail _ (.head _)), fun _ h => nomatch h⟩⟩), he⟩) ?_)
      rw [hl9e]
      exact List.forall_mem_cons.mpr ⟨.tail _ (.tail _ (List.mem_append_right _ (.head _))), List.forall_mem_cons.mpr ⟨.tail _ (.tail _ (List.mem_append_right _ (.tail _ (.head _)))), List.forall_mem_cons.mpr ⟨.head _, List.forall_mem_cons.mpr ⟨.tail _ (.head _), fun p h => .tail _ (.tail _ ((List.mem_append.mp h).elim (List.mem_append_left _) fun h => List.mem_append_right _ (.tail _ (.tail _ h))))⟩⟩⟩⟩
  · rintro m1 l1 ⟨⟨nf, np, nl, nc, nw⟩, _, ps, ls, hB, he⟩
    rw [hwl, List.drop_length, bout] at he
    refine go_ret (P := fun v l' => ∃ T, v = .ref T ∧ l' = (T, tupO [.ref dP, .ref dL]) :: l1) (ev_tup (P1 := fun vs l' => vs = [.ref dP, .ref dL] ∧ l' = l1) (ar_cons (pu_name W np) ?_) ?_) ?_
    · rintro _ _ ⟨rfl, rfl⟩
      refine ar_cons (pu_name W nl) ?_
      rintro _ _ ⟨rfl, rfl⟩
      exact ar_nil ⟨rfl, rfl⟩
    · rintro _ _ ⟨rfl, rfl⟩
      exact ⟨Nat.le_of_ble_eq_true rfl, fun D _ => ⟨D, rfl, rfl⟩⟩
    · rintro _ _ ⟨T, rfl, rfl⟩
      refine hret _ _ _ ⟨T, dP, dL, l1, l9, _, rfl, ?_, by rw [← he]; exact hB, loP, loL⟩
      cases hB
      exact List.forall_mem_cons.mpr ⟨.head _, List.forall_mem_append.mpr ⟨fun p h => .tail _ h, fun p h => .tail _ (.tail _ (.tail _ (List.mem_append_right _ (hl9 p h))))⟩⟩
end
section
variable {prog : Program} {w : World} {c : Wc prog w} {sc : Scope} {m : Nm} {l im : Led} {f : FA} {o : Obj} {kvs : List (Int × Value)} {q : Addr} {vs : List Value} {n at_ : Nat} {ta tb : Tok} {ws : List Nat} {ps : List (Int × Nat)} {as : List Addr} {st : List Obj}
theorem put_put {a b : Addr} {o1 o2 : Obj} (ha : (a, o1) ∈ l) (hb : (b, o2) ∈ l) (_hab : a ≠ b) : ∀ p ∈ put b o2 (put a o1 l), p ∈ l := fun p hp => (List.mem_cons.mp hp).elim (fun e => e ▸ hb) fun hp => put_sub ha p (mem_without.mp hp).1
set_option maxRecDepth 100000 in
theorem jn_call (W : c.Ok sc) (hf : FlatIn w.params f l) (hq : (q, lstO vs n) ∈ l) (hp : (f.pairs, o) ∈ l) (fq : f.o ≠ q ∧ f.d ≠ q) (fp : f.o ≠ f.pairs ∧ f.d ≠ f.pairs) (hqp : q ≠ f.pairs) (hd : o.IsDictOf (PySem.intKind prog w) kvs) (hkv : Two (KV NatV) kvs ps) (hv : IntsV vs ws) (hsz : ps.length < 100000) (hvs : vs.length < 100000) (hdp : c.dp + 20 < recursionLimit) :
    Tr c m l (call (.ref 93) [.ref f.o, .ref q, .int (at_ : Int) ta]) (fun _ l' => ∃ o' kvs' vs' n', l' = put f.pairs o' (put q (lstO vs' n') l) ∧ o'.IsDictOf (PySem.intKind prog w) kvs' ∧ Two (KV NatV) kvs' (joinL at_ ws ps).2 ∧ IntsV vs' (joinL at_ ws ps).1) := by
  refine' tr_def (binds := [(Str.ofString "flat", .ref f.o), (Str.ofString "open_rows", .ref q), (Str.ofString "at", .int (at_ : Int) ta)]) W ?ho ?hcd ?hr ?hb ?hl ?h1 ?h2 ?h3 ?h4 ?_
  (case ho => k_is)
  (case hcd => k_is)
  (case hr => exact Nat.lt_of_le_of_lt (Nat.le_add_right _ _) hdp)
  (case hb => exact rfl)
  (case hl => exact locs rfl)
  (case h1 => exact rfl)
  (case h2 => exact rfl)
  (case h3 => exact rfl)
  (case h4 => decide)
  clear W
  intro c' Q W _ _ _ hret
  have hk := hkv.length
  cases hv with
  | nil =>
    refine go_skip (Ts.as (ts_int (op := .Gt) (a := ((List.length ([] : List Value) : Nat) : Int)) (b := 0) rfl (pu_len W hq (Nat.lt_of_le_of_lt (Nat.zero_le _) Nat.zero_lt_one |> fun _ => by decide) (pu_name W rfl)) pu_int) rfl) (go_nil (End.sub (hret _ _ ⟨o, kvs, [], n, rfl, hd, hkv, .nil⟩) (put_put hq hp hqp)))
  | @snoc vs2 ws2 bg tb hv =>
    refine go_if_t (Ts.as (ts_int (op := .Gt) (a := (((vs2 ++ [Value.int (bg : Int) tb]).length : Nat) : Int)) (b := 0) rfl (pu_len W hq (Nat.lt_trans hvs (by decide)) (pu_name W rfl)) pu_int) (by rw [List.length_append]; exact decide_eq_true (Int.natCast_pos.mpr (Nat.succ_pos _)))) fun Q2 C => ?_
    rw [List.length_append] at hvs
    have hvs2 := Nat.lt_of_succ_lt hvs
    refine go_assign W (ev_pop hq hvs2 (pu_name W rfl)) ?_
    rintro _ _ ⟨rfl, rfl⟩
    have hp1 : (f.pairs, o) ∈ put q (lstO vs2 (n + 1)) l := mem_put hp hqp.symm
    have hf1 : FlatIn w.params f (put q (lstO vs2 (n + 1)) l) := hf.put fq.1 fq.2
    refine go_put (knd := PySem.intKind prog w) (pu_name W rfl) ?_
    rintro _ _ ⟨rfl, rfl⟩
    refine ⟨f.pairs, pu_pairs W.toOk hf1 (pu_name W rfl), (pu_name W rfl).mono ?_⟩
    rintro _ _ ⟨rfl, rfl⟩
    refine ⟨o, kvs, (bg : Int), hp1, hd, intKind_is _ _ _ _, Nat.lt_trans (hk ▸ hsz) (by decide), fun o1 d1 => ?_⟩
    have hf2 : FlatIn w.params f (put f.pairs o1 (put q (lstO vs2 (n + 1)) l)) := hf1.put fp.1 fp.2
    refine go_put (knd := PySem.intKind prog w) (pu_name W rfl) ?_
    rintro _ _ ⟨rfl, rfl⟩
    refine ⟨f.pairs, pu_pairs W.toOk hf2 (pu_name W rfl), (pu_name W rfl).mono ?_⟩
    rintro _ _ ⟨rfl, rfl⟩
    refine ⟨o1, _, (at_ : Int), .head _, d1, intKind_is _ _ _ _, Nat.lt_of_le_of_lt (stored_le _ _ _) (Nat.lt_of_le_of_lt (Nat.succ_le_succ (hk ▸ Nat.le_of_lt hsz)) (by decide)), fun o2 d2 => ?_⟩
    refine go_nil (C.nx _ _ (go_nil (End.sub (hret _ _ ⟨o2, _, vs2, n + 1, rfl, d2, kv_stored (kv_stored hkv ⟨_, rfl⟩) ⟨_, rfl⟩, hv⟩) ?_)))
    exact fun p hp => (List.mem_cons.mp hp).elim (fun e => e ▸ .head _) fun hp => .tail _ (mem_without.mpr ⟨.tail _ (mem_without.mpr (mem_without.mp hp)), (mem_without.mp hp).2⟩)
end
theorem put2_sub {a b : Addr} {o1 o2 : Obj} {l l' : Led} (h1 : (a, o1) ∈ l') (h2 : (b, o2) ∈ l') (h : ∀ p ∈ l, p.1 ≠ a → p.1 ≠ b → p ∈ l') : ∀ p ∈ put b o2 (put a o1 l), p ∈ l' := fun p hp => (List.mem_cons.mp hp).elim (fun e => e ▸ h2) fun hp => (List.mem_cons.mp (mem_without.mp hp).1).elim (fun e => e ▸ h1) fun h3 => h p (mem_without.mp h3).1 (mem_without.mp h3).2 (mem_without.mp hp).2
inductive ElJ (prog : Program) (w : World) (q lo : Addr) (l im : Led) (len : Nat) (ls : List (Int × (Nat × Nat))) (fs : List Nat) (l1 : Led) : Prop
  | mk (nw : Led) (o1 : Obj) (kvs1 : List (Int × Value)) (vs1 : List Value) (n1 : Nat) (hq : (q, lstO vs1 n1) ∈ l1) (hl : (lo, o1) ∈ l1) (hs : ∀ p ∈ l, p.1 ≠ q → p.1 ≠ lo → p ∈ l1) (hn : ∀ p ∈ nw, p ∈ l1 ∧ ∀ x ∈ l, p.1 ≠ x.1)
    (d : o1.IsDictOf (PySem.intKind prog w) kvs1) (k : Two (KV (PairV (nw ++ im))) kvs1 ls) (v : IntsV vs1 fs) (z : vs1.length ≤ len)
section
variable {prog : Program} {w : World} {c : Wc prog w} {sc : Scope} {m : Nm} {l im : Led} {f : FA} {o : Obj} {kvs : List (Int × Value)} {q : Addr} {vs : List Value} {n at_ many : Nat} {ta tb : Tok} {fs : List Nat} {ls : List (Int × (Nat × Nat))}
set_option maxRecDepth 100000 in
theorem el_call (W : c.Ok sc) (hf : FlatIn w.params f l) (hq : (q, lstO vs n) ∈ l) (hl : (f.loops, o) ∈ l) (fq : f.o ≠ q ∧ f.d ≠ q) (fl : f.o ≠ f.loops ∧ f.d ≠ f.loops) (hql : q ≠ f.loops) (hd : o.IsDictOf (PySem.intKind prog w) kvs) (hkv : Two (KV (PairV im)) kvs ls) (hv : IntsV vs fs) (hsz : ls.length + many < 100000) (hvs : vs.length < 100000) (hdp : c.dp + 20 < recursionLimit) :
    Tr c m l (call (.ref 100) [.ref f.o, .ref q, .int (at_ : Int) ta, .int (many : Int) tb]) (fun _ l' => ElJ prog w q f.loops l im vs.length (endL at_ many 0 fs ls).2 (endL at_ many 0 fs ls).1 l') := by
  refine' tr_def (binds := [(Str.ofString "flat", .ref f.o), (Str.ofString "fors", .ref q), (Str.ofString "at", .int (at_ : Int) ta), (Str.ofString "many", .int (many : Int) tb)]) W ?ho ?hcd ?hr ?hb ?hl ?h1 ?h2 ?h3 ?h4 ?_
  (case ho => k_is)
  (case hcd => k_is)
  (case hr => exact Nat.lt_of_le_of_lt (Nat.le_add_right _ _) hdp)
  (case hb => exact rfl)
  (case hl => exact locs rfl)
  (case h1 => exact rfl)
  (case h2 => exact rfl)
  (case h3 => exact rfl)
  (case h4 => decide)
  clear W
  intro c' Q W _ _ _ hret
  have hmz : many < 1000000 := Nat.lt_of_le_of_lt (Nat.le_add_left _ _) (Nat.lt_trans hsz (by decide))
  refine go_forR W (n := many) (a := 0) (fun i m1 l1 => m1 (Str.ofString "flat") = some (.ref f.o) ∧ m1 (Str.ofString "fors") = some (.ref q) ∧ m1 (Str.ofString "at") = some (.int (at_ : Int) ta) ∧ ∃ ls1 fs1, ElJ prog w q f.loops l im vs.length ls1 fs1 l1 ∧ endL at_ (many - i) i fs1 ls1 = endL at_ many 0 fs ls ∧ ls1.length ≤ ls.length + i) (ev_range1 W (Int.zero_add _).symm (pi_name W rfl)) (Int.le_refl _) (by decide) hmz ⟨rfl, rfl, rfl, ls, fs, .mk [] o kvs vs n hq hl (fun p h _ _ => h) (fun _ h => nomatch h) hd hkv hv (Nat.le_refl _), rfl, Nat.le_refl _⟩ ?_ ?_
  · rintro i tv m1 l1 I oI Q' hi ⟨n1, n2, n3, ls1, fs1, ⟨nw, o1, kvs1, vs1, k1, hq1, hl1, hs1, hn1, d1, kv1, v1, z1⟩, e1, z2⟩ off T9
    have hf1 : FlatIn w.params f ((I, oI) :: l1) := ⟨.tail _ (hs1 _ hf.o fq.1 fl.1), .tail _ (hs1 _ hf.d fq.2 fl.2)⟩
    have hIq := off _ hq1
    have hIl := off _ hl1
    refine gt_name W ?_
    cases v1 with
    | nil =>
      refine go_skip (Ts.as (ts_int (op := .Gt) (a := ((List.length ([] : List Value) : Nat) : Int)) (b := 0) rfl (pu_len W (.tail _ hq1) (by decide) (pu_name W n2)) pu_int) rfl) (turnE T9 off ⟨n1, n2, n3, ls1, [], .mk nw o1 kvs1 [] k1 hq1 hl1 hs1 hn1 d1 kv1 .nil z1, by rw [← e1, endL_nil, endL_nil], Nat.le_succ_of_le z2⟩ fun p h => h)
    | @snoc vs2 fs2 b2 t2 v1 =>
      refine go_if_t (Ts.as (ts_int (op := .Gt) (a := (((vs2 ++ [Value.int (b2 : Int) t2]).length : Nat) : Int)) (b := 0) rfl (pu_len W (.tail _ hq1) (Nat.lt_of_le_of_lt z1 (Nat.lt_trans hvs (by decide))) (pu_name W n2)) pu_int) (by rw [List.length_append]; exact decide_eq_true (Int.natCast_pos.mpr (Nat.succ_pos _)))) fun Q2 C => ?_
      rw [List.length_append] at z1
      have z3 : vs2.length < 100000 := Nat.lt_of_lt_of_le (Nat.lt_succ_self _) (Nat.le_of_lt (Nat.lt_of_le_of_lt z1 hvs))
      refine go_put (knd := PySem.intKind prog w) (P := fun v l' => ∃ T, v = .ref T ∧ AllLt T ((I, oI) :: l1) ∧ l' = (T, tupO [.int (at_ : Int) ta, .int (0 + (i : Int)) tv]) :: (I, oI) :: l1) (ev_tup (P1 := fun as l' => as = [.int (at_ : Int) ta, .int (0 + (i : Int)) tv] ∧ l' = (I, oI) :: l1) (ar_cons (pu_name W ((if_neg (by decide +kernel)).trans n3)) ?_) ?_) ?_
      · rintro _ _ ⟨rfl, rfl⟩
        refine ar_cons (pu_name W (if_pos rfl)) ?_
        rintro _ _ ⟨rfl, rfl⟩
        exact ar_nil ⟨rfl, rfl⟩
      · rintro _ _ ⟨rfl, rfl⟩
        exact ⟨Nat.le_of_ble_eq_true rfl, fun D hD => ⟨D, rfl, hD, rfl⟩⟩
      rintro _ _ ⟨T, rfl, hT, rfl⟩
      have lt := allLt_iff.mp hT
      have nq : (n : Str) → n ≠ Str.ofString "which" → ∀ v, upd m1 (Str.ofString "which") v n = m1 n := fun n h v => if_neg h
      have hq2 : (q, lstO (vs2 ++ [Value.int (b2 : Int) t2]) k1) ∈ (T, tupO [.int (at_ : Int) ta, .int (0 + (i : Int)) tv]) :: (I, oI) :: l1 := .tail _ (.tail _ hq1)
      refine ⟨f.loops, pu_loops W.toOk (hf1.mono fun p h => .tail _ h) (pu_name W ((nq _ (by decide +kernel) _).trans n1)), (ev_pop hq2 z3 (pu_name W ((nq _ (by decide +kernel) _).trans n2))).mono ?_⟩
      rintro _ _ ⟨rfl, rfl⟩
      have kl := kv1.length
      refine ⟨o1, kvs1, (b2 : Int), mem_put (.tail _ (.tail _ hl1)) hql.symm, d1, intKind_is _ _ _ _, Nat.lt_of_le_of_lt (kl ▸ z2) (Nat.lt_trans (Nat.lt_of_lt_of_le (Nat.add_lt_add_left hi _) (Nat.le_refl _)) (Nat.lt_trans hsz (by decide))), fun o2 d2 => ?_⟩
      obtain ⟨L2, hL2⟩ : ∃ L2 : Led, L2 = put f.loops o2 (put q (lstO vs2 (k1 + 1)) ((T, tupO [.int (at_ : Int) ta, .int (0 + (i : Int)) tv]) :: (I, oI) :: l1)) := ⟨_, rfl⟩
      have up : ∀ p ∈ (T, tupO [.int (at_ : Int) ta, .int (0 + (i : Int)) tv]) :: (I, oI) :: l1, p.1 ≠ q → p.1 ≠ f.loops → p ∈ L2 := fun p h a b => hL2 ▸ mem_put (mem_put h a) b
      have hI2 : (I, oI) ∈ L2 := up _ (.tail _ (.head _)) (Ne.symm hIq) (Ne.symm hIl)
      have hT2 : (T, tupO [.int (at_ : Int) ta, .int (0 + (i : Int)) tv]) ∈ L2 := up _ (.head _) (Nat.ne_of_gt (lt _ (.tail _ hq1))) (Nat.ne_of_gt (lt _ (.tail _ hl1)))
      rw [← hL2]
      refine go_nil (C.nx _ _ (turnE T9 (l' := without I L2) (fun p h => (mem_without.mp h).2) ⟨(nq _ (by decide +kernel) _).trans n1, (nq _ (by decide +kernel) _).trans n2, (nq _ (by decide +kernel) _).trans n3, putA ls1 (b2 : Int) (at_, i), fs2, .mk ((T, tupO [.int (at_ : Int) ta, .int (0 + (i : Int)) tv]) :: nw) o2 _ vs2 (k1 + 1) ?_ ?_ ?_ ?_ d2 (kv_stored (kv1.mono fun a b h => ⟨h.1, h.2.mono fun p h => .tail _ h⟩) ⟨T, ta, tv, rfl, by rw [Int.zero_add]; exact .head _⟩) v1 (Nat.le_of_succ_le z1), ?_, ?_⟩ ?_))
      · exact mem_without.mpr ⟨hL2 ▸ .tail _ (mem_without.mpr ⟨.head _, hql⟩), hIq⟩
      · exact mem_without.mpr ⟨hL2 ▸ .head _, hIl⟩
      · exact fun p h a b => mem_without.mpr ⟨up p (.tail _ (.tail _ (hs1 p h a b))) a b, off _ (hs1 p h a b)⟩
      · refine List.forall_mem_cons.mpr ⟨⟨mem_without.mpr ⟨hT2, Nat.ne_of_gt (lt _ (.head _))⟩, fun x hx => ?_⟩, fun p h => ⟨mem_without.mpr ⟨up p (.tail _ (.tail _ (hn1 p h).1)) ((hn1 p h).2 _ hq) ((hn1 p h).2 _ hl), off _ (hn1 p h).1⟩, (hn1 p h).2⟩⟩
        by_cases a : x.1 = q
        · rw [a]; exact Nat.ne_of_gt (lt _ (.tail _ hq1))
        by_cases b : x.1 = f.loops
        · rw [b]; exact Nat.ne_of_gt (lt _ (.tail _ hl1))
        · exact Nat.ne_of_gt (lt _ (.tail _ (hs1 x hx a b)))
      · rw [← e1, ← Nat.succ_sub_one (many - i), show many - i = (many - (i + 1)) + 1 from (Nat.succ_pred_eq_of_pos (Nat.sub_pos_of_lt hi)).symm.trans (by rw [Nat.sub_succ])]
        rfl
      · exact Nat.le_trans (putA_le _ _ _) (Nat.succ_le_succ z2)
      · exact fun p h => (List.mem_cons.mp h).elim (fun e => e ▸ hI2) fun h => (mem_without.mp h).1
  · rintro m1 l1 ⟨_, _, _, ls1, fs1, J, e1, _⟩
    rw [Nat.sub_self] at e1
    have e2 : (fs1, ls1) = endL at_ many 0 fs ls := e1
    refine go_nil (hret _ _ ?_)
    rw [← e2]
    exact J
end
theorem fact_jn : ∀ P, nsIn (Mine.K P) mainGlobals (Str.ofString "join_rows") = some (some (.ref 93)) := fun P => by k_is
theorem fact_jn2 : ∀ P, keepIn (Mine.K P) (.ref 93) = true := fun P => by k_is
theorem fact_el : ∀ P, nsIn (Mine.K P) mainGlobals (Str.ofString "end_loops") = some (some (.ref 100)) := fun P => by k_is
theorem fact_el2 : ∀ P, keepIn (Mine.K P) (.ref 100) = true := fun P => by k_is
noncomputable abbrev gA (f : FA) (W P H : Addr) : List Addr := [W, P, H, f.data, f.pairs, f.loops, f.fns]
noncomputable abbrev gS (vw vf vh dv : List Value) (nw nf nh nd : Nat) (oP oL oF : Obj) : List Obj := [lstO vw nw, lstO vf nf, lstO vh nh, lstO dv nd, oP, oL, oF]
structure GNm (m : Nm) (f : FA) (W P H : Addr) : Prop where
  n1 : m (Str.ofString "flat") = some (.ref f.o)
  n2 : m (Str.ofString "whiles") = some (.ref W)
  n3 : m (Str.ofString "fors") = some (.ref P)
  n4 : m (Str.ofString "heads") = some (.ref H)
inductive GatS (prog : Program) (w : World) (f : FA) (W P H : Addr) (lb : Led) (g : GS) (ne : Addr → Prop) (l : Led) : Prop
  | mk (vw vf vh dv : List Value) (nw nf nh nd : Nat) (oP oL oF : Obj) (im : Led) (M : Mut (gA f W P H) (gS vw vf vh dv nw nf nh nd oP oL oF) l) (I : Imm (gA f W P H) im l) (sb : ∀ p ∈ lb, p ∈ im) (G : GRep prog w im g vw vf vh dv oP oL oF) (off : ∀ p ∈ im, ne p.1)
inductive GatM (prog : Program) (w : World) (f : FA) (W P H : Addr) (lb : Led) (g : GS) (e9 it9 : Addr) (oe oi : Obj) (m : Nm) (l : Led) : Prop
  | mk (nm : GNm m f W P H) (s : GatS prog w f W P H lb g (fun a => a ≠ e9 ∧ a ≠ it9) l) (he : (e9, oe) ∈ l) (hi : (it9, oi) ∈ l)
inductive GatJ (prog : Program) (w : World) (f : FA) (W P H : Addr) (lb : Led) (rows : List (Int × RK)) (its : List Value) (i : Nat) (r : List Value) (m : Nm) (l : Led) : Prop
  | mk (g : GS) (nm : GNm m f W P H) (s : GatS prog w f W P H lb g (fun _ => True) l) (hr : r = its.drop i) (hg : gfold i g (rows.drop i) = gfold 0 .zero rows) (ht : g.tot ≤ 2 * i)
inductive DatJ (prog : Program) (w : World) (f : FA) (W P H : Addr) (lb : Led) (g : GS) (ln : Int) (xs : List (Int × Str)) (e9 it9 : Addr) (oe oi : Obj) (r : List Value) (m : Nm) (l : Led) : Prop
  | mk (vw vf vh dv : List Value) (nw nf nh nd : Nat) (oP oL oF : Obj) (im : Led) (dn : List (Int × Str)) (tl : List Str) (nm : GNm m f W P H) (M : Mut (gA f W P H) (gS vw vf vh dv nw nf nh nd oP oL oF) l) (I : Imm (gA f W P H) im l) (sb : ∀ p ∈ lb, p ∈ im) (G : GRep prog w im { g with data := dn } vw vf vh dv oP oL oF) (off : ∀ p ∈ im, p.1 ≠ e9 ∧ p.1 ≠ it9) (he : (e9, oe) ∈ l) (hi : (it9, oi) ∈ l) (nl : ∃ t, m (Str.ofString "line") = some (.int ln t))
      (hr : Two (fun v x => StV x v) r tl) (hx : dn ++ tl.map (fun x => (ln, x)) = g.data ++ xs)
section
variable {prog : Program} {w : World} {c : Wc prog w} {sc : Scope} {m : Nm} {l lb : Led} {f : FA} {its : List Value} {n nd : Nat} {rows : List (Int × RK)} {oP oL oF : Obj}
theorem GNm.upd {f : FA} {W P H : Addr} {m : Nm} (h : GNm m f W P H) {x : Str} (v : Value) (h1 : Str.ofString "flat" ≠ x) (h2 : Str.ofString "whiles" ≠ x) (h3 : Str.ofString "fors" ≠ x) (h4 : Str.ofString "heads" ≠ x) : GNm (upd m x v) f W P H := ⟨(if_neg h1).trans h.n1, (if_neg h2).trans h.n2, (if_neg h3).trans h.n3, (if_neg h4).trans h.n4⟩
theorem gstep_old {line : Int} {i : Nat} {g : GS} {v : Value} {n : Str} (h : (atA g.fns n).isSome = true) : gstep line i g (.leaf v (.deff n)) = { g with heads := i :: g.heads } := by
  show GS.mk _ _ _ _ _ (if _ then _ else _) _ = _
  rw [if_pos h]
theorem gstep_new {line : Int} {i : Nat} {g : GS} {v : Value} {n : Str} (h : (atA g.fns n).isSome = false) : gstep line i g (.leaf v (.deff n)) = { g with heads := i :: g.heads, fns := putA g.fns n i } := by
  show GS.mk _ _ _ _ _ (if _ then _ else _) _ = _
  rw [if_neg (by rw [h]; decide)]
theorem two_drop {α β : Type} {R : α → β → Prop} {as : List α} {bs : List β} (h : Two R as bs) {i : Nat} {a : α} {r : List α} (e : a :: r = as.drop i) : ∃ b, bs[i]? = some b ∧ R a b ∧ bs.drop i = b :: bs.drop (i + 1) ∧ r = as.drop (i + 1) := by
  have ha : as[i]? = some a := by
    have : (as.drop i)[0]? = some a := by rw [← e]; rfl
    rw [List.getElem?_drop] at this
    exact this
  have hi : i < bs.length := h.length ▸ (List.getElem?_eq_some_iff.mp ha).1
  obtain ⟨a', b, h1, h2, h3⟩ := two_get h hi
  rw [ha] at h1
  cases h1
  refine ⟨b, h2, h3, ?_, ?_⟩
  · rw [List.drop_eq_getElem_cons hi, (List.getElem?_eq_some_iff.mp h2).2]
  · have := congrArg List.tail e
    rw [List.tail_drop] at this
    exact this
set_option maxRecDepth 100000 in
set_option maxHeartbeats 4000000 in
theorem tr_gather (W9 : c.Ok sc) (hf : FlatIn w.params f lb) (hr : (f.rows, lstO its n) ∈ lb) (hrows : RowsL lb its rows) (hsz : its.length < 1000) (dP : oP.IsDictOf (PySem.intKind prog w) []) (dL : oL.IsDictOf (PySem.intKind prog w) []) (dF : oF.IsDictOf (PySem.strKind prog w) []) (loF : (f.fns == sysModules) = false)
    (hnx : ∀ ln v k, (ln, RK.leaf v (.next k)) ∈ rows → k < 1000) (M0 : Mut [f.data, f.pairs, f.loops, f.fns] [lstO [] nd, oP, oL, oF] l) (I0 : Imm [f.data, f.pairs, f.loops, f.fns] lb l) (hdp : c.dp + 40 < recursionLimit) :
    Tr c m l (call (.ref 86) [.ref f.o]) (fun _ l' => ∃ W P H, GatS prog w f W P H lb (gfold 0 .zero rows) (fun _ => True) l') := by
  refine' tr_def (binds := [(Str.ofString "flat", .ref f.o)]) W9 ?ho ?hcd ?hr ?hb ?hl ?h1 ?h2 ?h3 ?h4 ?_
  (case ho => k_is)
  (case hcd => k_is)
  (case hr => exact Nat.lt_of_le_of_lt (Nat.le_add_right _ _) hdp)
  (case hb => exact rfl)
  (case hl => exact locs rfl)
  (case h1 => exact rfl)
  (case h2 => exact rfl)
  (case h3 => exact rfl)
  (case h4 => decide)
  intro c' Q W9 hd9 _ _ hret
  have hd2 : c'.dp + 20 < recursionLimit := hd9 ▸ Nat.lt_of_le_of_lt (Nat.add_le_add_left (by decide : 1 + 20 ≤ 40) _ |> fun h => by rw [Nat.add_assoc]; exact h) hdp
  clear hd9 hdp
  refine go_trip W9 ev_nil ?_
  rintro _ _ ⟨W, rfl, rfl, hW⟩
  refine Tr.mono ev_nil ?_
  rintro _ _ ⟨P, rfl, rfl, hP⟩
  refine Tr.mono ev_nil ?_
  rintro _ _ ⟨H, rfl, rfl, hH⟩
  have nm0 : GNm (upd (upd (upd (fun y => ([(Str.ofString "flat", Value.ref f.o)] : List (Str × Value)).reverse.lookup y) (Str.ofString "heads") (.ref H)) (Str.ofString "fors") (.ref P)) (Str.ofString "whiles") (.ref W)) f W P H := ⟨rfl, rfl, rfl, rfl⟩
  generalize upd (upd (upd (fun y => ([(Str.ofString "flat", Value.ref f.o)] : List (Str × Value)).reverse.lookup y) (Str.ofString "heads") (.ref H)) (Str.ofString "fors") (.ref P)) (Str.ofString "whiles") (.ref W) = m0 at nm0 ⊢
  have hW' := M0.off rfl fun p h => Nat.ne_of_lt (allLt_iff.mp hW p h)
  have hP' := M0.off rfl fun p h => Nat.ne_of_lt (allLt_iff.mp hP p (.tail _ h))
  have hH' := M0.off rfl fun p h => Nat.ne_of_lt (allLt_iff.mp hH p (.tail _ (.tail _ h)))
  have M1 : Mut (gA f W P H) (gS [] [] [] [] 0 0 0 nd oP oL oF) ((H, lstO [] 0) :: (P, lstO [] 0) :: (W, lstO [] 0) :: l) := by
    refine ⟨List.nodup_cons.mpr ⟨fun h => ?_, List.nodup_cons.mpr ⟨fun h => ?_, List.nodup_cons.mpr ⟨hH', M0.nd⟩⟩⟩, fun k a o h1 h2 => ?_⟩
    · rcases List.mem_cons.mp h with h | h
      · exact Nat.ne_of_lt (allLt_iff.mp hP _ (.head _)) h
      rcases List.mem_cons.mp h with h | h
      · exact Nat.ne_of_lt (allLt_iff.mp hH _ (.tail _ (.head _))) h
      · exact hW' h
    · rcases List.mem_cons.mp h with h | h
      · exact Nat.ne_of_lt (allLt_iff.mp hH _ (.head _)) h
      · exact hP' h
    · match k, h1, h2 with
      | 0, h1, h2 => cases h1; cases h2; exact .tail _ (.tail _ (.head _))
      | 1, h1, h2 => cases h1; cases h2; exact .tail _ (.head _)
      | 2, h1, h2 => cases h1; cases h2; exact .head _
      | k + 3, h1, h2 => exact .tail _ (.tail _ (.tail _ (M0.hm k a o h1 h2)))
  have I1 : Imm (gA f W P H) lb ((H, lstO [] 0) :: (P, lstO [] 0) :: (W, lstO [] 0) :: l) := ⟨fun p hp => ⟨.tail _ (.tail _ (.tail _ (I0.sub p hp))), fun h => by
    have hl := I0.sub p hp
    rcases List.mem_cons.mp h with h | h
    · exact Nat.ne_of_lt (allLt_iff.mp hW p hl) h
    rcases List.mem_cons.mp h with h | h
    · exact Nat.ne_of_lt (allLt_iff.mp hP p (.tail _ hl)) h
    rcases List.mem_cons.mp h with h | h
    · exact Nat.ne_of_lt (allLt_iff.mp hH p (.tail _ (.tail _ hl))) h
    · exact (I0.hi p hp).2 h⟩⟩
  have hlen := hrows.length
  refine go_forE W9 (GatJ prog w f W P H lb rows its) (items := its) (k9 := n) (pu_rows W9.toOk (hf.mono I1.sub) (pu_name W9 nm0.n1)) (I1.sub _ hr) (.mk .zero nm0 (.mk [] [] [] [] 0 0 0 nd oP oL oF lb M1 I1 (fun p h => h) ⟨.nil, .nil, .nil, ⟨[], dP, .nil⟩, ⟨[], dL, .nil⟩, ⟨[], dF, .nil⟩, .nil⟩ fun _ _ => trivial) rfl rfl (Nat.le_refl _)) (fun i r m1 l1 ⟨_, _, ⟨_, _, _, _, _, _, _, _, _, _, _, _, _, I, sb, _, _⟩, _, _, _⟩ => I.sub _ (sb _ hr)) ?_ ?_
  · clear M1 I1 hW' hP' hH' nm0 hW hP hH M0 I0 dP dL dF hret
    rintro i v r m1 l1 T tv e9 oe it9 oi Q' ⟨g, nm, ⟨vw, vf, vh, dv, nw, nf, nh, nd, oP, oL, oF, im, M, I, sb, G, _⟩, hr1, hg, ht⟩ offe offi hT T0
    obtain ⟨x, hx, ⟨b, a, t, kk, rs, rfl, hb, ha, htl⟩, hdr, hr2⟩ := two_drop hrows hr1
    have hi : i < 1000 := Nat.lt_trans (hlen ▸ (List.getElem?_eq_some_iff.mp hx).1) hsz
    obtain ⟨z1, z2, z3, z4, z5, z6, z7⟩ := G.sz ht hi
    have ne9 := M.off rfl offe
    have ni9 := M.off rfl offi
    have hmid : ∀ m' l', GatM prog w f W P H lb (gstep x.1 i g x.2) e9 it9 oe oi m' l' → End c' Q' m' l' .next := by
      rintro m' l' ⟨nm', ⟨vw, vf, vh, dv, nw, nf, nh, nd, oP, oL, oF, im', M', I', sb', G', off'⟩, he, hi⟩
      refine End.sub (T0.nx m' (without it9 (without e9 l')) (fun p hp q hq => ?_) (.mk (gstep x.1 i g x.2) nm' (.mk vw vf vh dv nw nf nh nd oP oL oF im' ((M'.wo ne9).wo ni9) ((I'.wo fun p h => (off' p h).1).wo fun p h => (off' p h).2) sb' G' fun _ _ => trivial) hr2 (by rw [← hg, hdr]; rfl) (Nat.le_trans (gstep_tot g x.2) (Nat.add_le_add_right ht 2)))) (fun p hp => ?_)
      · have y1 := mem_without.mp hq
        have y2 := mem_without.mp y1.1
        rcases List.mem_cons.mp hp with rfl | hp
        · exact fun e => y2.2 e.symm
        · rw [List.mem_singleton.mp hp]
          exact fun e => y1.2 e.symm
      · rcases List.mem_cons.mp hp with rfl | hp
        · exact he
        rcases List.mem_cons.mp hp with rfl | hp
        · exact hi
        · exact (mem_without.mp (mem_without.mp hp).1).1
    have lt := allLt_iff.mp hT
    have s3 : ∀ p ∈ l1, p ∈ (T, tupO [.int (i : Int) tv, .ref b]) :: (e9, oe) :: (it9, oi) :: l1 := fun p h => .tail _ (.tail _ (.tail _ h))
    have off1 : ∀ p ∈ im, p.1 ≠ e9 ∧ p.1 ≠ it9 := fun p h => ⟨offe p (I.sub p h), offi p (I.sub p h)⟩
    have M2 := M.mono s3
    have I2 := I.mono s3
    have he2 : (e9, oe) ∈ (T, tupO [.int (i : Int) tv, .ref b]) :: (e9, oe) :: (it9, oi) :: l1 := .tail _ (.head _)
    have hi2 : (it9, oi) ∈ (T, tupO [.int (i : Int) tv, .ref b]) :: (e9, oe) :: (it9, oi) :: l1 := .tail _ (.tail _ (.head _))
    refine gt_pair W9 (.head _) ?_
    generalize (T, tupO [.int (i : Int) tv, .ref b]) :: (e9, oe) :: (it9, oi) :: l1 = l2 at M2 I2 he2 hi2 ⊢
    clear lt s3 offe offi hT T0 M I hg hr1 hr2 hdr
    have sb2 : ∀ p ∈ lb, p ∈ l2 := fun p h => I2.sub p (sb p h)
    refine go_two W9 (pu_name W9 (if_pos rfl)) ?_
    rintro _ _ ⟨rfl, rfl⟩
    rename_i l2
    refine ⟨b, rfl, gt_pair W9 (sb2 _ hb) ?_⟩
    refine go_assign W9 (ps_tup (k := 0) (sb2 _ ha) rfl (by decide) (pu_name W9 (if_pos rfl)) pu_int) ?_
    rintro _ _ ⟨⟨tw, rfl⟩, rfl⟩
    rename_i l2
    have nm2 : GNm (upd (upd (upd (upd (upd m1 (Str.ofString "at") (.int (i : Int) tv)) (Str.ofString "pair") (.ref b)) (Str.ofString "line") (.int x.1 t)) (Str.ofString "statement") (.ref a)) (Str.ofString "word") (.str x.2.word tw)) f W P H := ((((nm.upd _ (by decide +kernel) (by decide +kernel) (by decide +kernel) (by decide +kernel)).upd _ (by decide +kernel) (by decide +kernel) (by decide +kernel) (by decide +kernel)).upd _ (by decide +kernel) (by decide +kernel) (by decide +kernel) (by decide +kernel)).upd _ (by decide +kernel) (by decide +kernel) (by decide +kernel) (by decide +kernel)).upd _ (by decide +kernel) (by decide +kernel) (by decide +kernel) (by decide +kernel)
    have nW : upd (upd (upd (upd (upd m1 (Str.ofString "at") (.int (i : Int) tv)) (Str.ofString "pair") (.ref b)) (Str.ofString "line") (.int x.1 t)) (Str.ofString "statement") (.ref a)) (Str.ofString "word") (.str x.2.word tw) (Str.ofString "word") = some (.str x.2.word tw) := if_pos rfl
    have nS : upd (upd (upd (upd (upd m1 (Str.ofString "at") (.int (i : Int) tv)) (Str.ofString "pair") (.ref b)) (Str.ofString "line") (.int x.1 t)) (Str.ofString "statement") (.ref a)) (Str.ofString "word") (.str x.2.word tw) (Str.ofString "statement") = some (.ref a) := (if_neg (by decide +kernel)).trans (if_pos rfl)
    have nL : upd (upd (upd (upd (upd m1 (Str.ofString "at") (.int (i : Int) tv)) (Str.ofString "pair") (.ref b)) (Str.ofString "line") (.int x.1 t)) (Str.ofString "statement") (.ref a)) (Str.ofString "word") (.str x.2.word tw) (Str.ofString "line") = some (.int x.1 t) := (if_neg (by decide +kernel)).trans ((if_neg (by decide +kernel)).trans (if_pos rfl))
    have nA : upd (upd (upd (upd (upd m1 (Str.ofString "at") (.int (i : Int) tv)) (Str.ofString "pair") (.ref b)) (Str.ofString "line") (.int x.1 t)) (Str.ofString "statement") (.ref a)) (Str.ofString "word") (.str x.2.word tw) (Str.ofString "at") = some (.int (i : Int) tv) := (if_neg (by decide +kernel)).trans ((if_neg (by decide +kernel)).trans ((if_neg (by decide +kernel)).trans ((if_neg (by decide +kernel)).trans (if_pos rfl))))
    generalize upd (upd (upd (upd (upd m1 (Str.ofString "at") (.int (i : Int) tv)) (Str.ofString "pair") (.ref b)) (Str.ofString "line") (.int x.1 t)) (Str.ofString "statement") (.ref a)) (Str.ofString "word") (.str x.2.word tw) = m2 at nm2 nW nS nL nA ⊢
    clear nm m1
    have hfl : FlatIn w.params f l2 := hf.mono sb2
    have fa : ∀ (k : Nat) {a : Addr}, (gA f W P H)[k]? = some a → f.o ≠ a ∧ f.d ≠ a := fun k _ h => I2.flat (hf.mono sb) k h
    have hw : ∀ (s : Str) (p1 p2 p3 : Pos), Ts c' m2 l2 (.Compare (.Name (Str.ofString "word") p1) [.Eq] [.Constant (.str s) 0 p2] p3) (x.2.word == s) := fun s p1 p2 p3 => ts_eqs (ps_name W9 nW) pu_str
    have nxt : ∀ {g' : GS} {Q2 : Flow → Shared → Prop} {m' l'}, (∀ m l, GatM prog w f W P H lb g' e9 it9 oe oi m l → End c' Q2 m l .next) → GatM prog w f W P H lb g' e9 it9 oe oi m' l' → Go c' Q2 m' l' [] := fun k h => go_nil (k _ _ h)
    have pe : ∀ (k : Nat) {a : Addr} {o' : Obj} {L : Led}, (gA f W P H)[k]? = some a → (e9, oe) ∈ L → (it9, oi) ∈ L → (e9, oe) ∈ put a o' L ∧ (it9, oi) ∈ put a o' L := fun k a _ _ h q1 q2 => ⟨mem_put q1 fun (e : e9 = a) => ne9 (e ▸ List.mem_of_getElem? h), mem_put q2 fun (e : it9 = a) => ni9 (e ▸ List.mem_of_getElem? h)⟩
    have nn : ∀ (k j : Nat) {a b : Addr}, (gA f W P H)[k]? = some a → (gA f W P H)[j]? = some b → k ≠ j → a ≠ b := fun k j _ _ h1 h2 h3 => nd_ne M2.nd h1 h2 h3
    have zd : g.data.length < 90000 := G.da.length ▸ z4
    refine go_join (GatM prog w f W P H lb (gstep x.1 i g x.2) e9 it9 oe oi) (hw _ _ _ _) (fun hh Q2 K => ?_) (fun h1 Q2 K => ?_) (fun _ _ h => nxt hmid h)
    · obtain ⟨v9, s, hx2⟩ := is_data (eq_of_beq hh)
      rw [hx2] at K htl
      obtain ⟨_, b9, n9, k2, k3, rfl, hb9⟩ := htl
      refine go_forL W9 (DatJ prog w f W P H lb g x.1 [(x.1, s), (x.1, Str.ofString "b")] e9 it9 oe oi) (pu_tup (k := 1) (sb2 _ ha) rfl (by decide) (pu_name W9 nS) pu_int) (.mk vw vf vh dv nw nf nh nd oP oL oF im g.data [s, Str.ofString "b"] nm2 M2 I2 sb G off1 he2 hi2 ⟨t, nL⟩ (.cons ⟨k2, rfl⟩ (.cons ⟨k3, rfl⟩ .nil)) rfl) (fun r m1 l1 ⟨_, _, _, _, _, _, _, _, _, _, _, _, _, _, _, _, I, sb, _, _, _, _, _, _, _⟩ => I.sub _ (sb _ hb9)) ?_ ?_
      · clear M2 I2 nm2 he2 hi2 hfl nW nS nL nA hw pe sb2 K nn
        rintro v r m3 l3 I9 oI Q3 ⟨vw, vf, vh, dv, nw, nf, nh, nd, oP, oL, oF, im, dn, tl, nm, M, I, sb, G, off, he, hi, ⟨t3, nl⟩, hr, hxs⟩ offI T3
        cases hr with
        | @cons _ x2 _ tl2 hv hr =>
        obtain ⟨k9, rfl⟩ := hv
        have dl := G.da.length
        have xl := congrArg List.length hxs
        rw [List.length_append, List.length_append, List.length_map] at xl
        have nI := M.off rfl offI
        have hdz : dv.length < 1000000 := by
          rw [dl]
          show dn.length < _
          simp only [List.length_cons, List.length_nil] at xl
          omega
        refine gt_name W9 ?_
        refine go_app W9 (P := fun v l' => ∃ T, v = .ref T ∧ AllLt T ((I9, oI) :: l3) ∧ l' = (T, tupO [.int x.1 t3, .str x2 k9]) :: (I9, oI) :: l3) (.tail _ (M.hm 3 _ _ rfl rfl)) (pu_data W9.toOk (hf.mono fun p h => .tail _ (I.sub p (sb p h))) (pu_name W9 ((if_neg (by decide +kernel)).trans nm.n1))) (ev_tup (P1 := fun as l' => as = [.int x.1 t3, .str x2 k9] ∧ l' = (I9, oI) :: l3) (ar_cons (pu_name W9 ((if_neg (by decide +kernel)).trans nl)) ?_) ?_) ?_
        · rintro _ _ ⟨rfl, rfl⟩
          refine ar_cons (pu_name W9 (if_pos rfl)) ?_
          rintro _ _ ⟨rfl, rfl⟩
          exact ar_nil ⟨rfl, rfl⟩
        · rintro _ _ ⟨rfl, rfl⟩
          exact ⟨Nat.le_of_ble_eq_true rfl, fun D hD => ⟨D, rfl, hD, rfl⟩⟩
        rintro _ _ ⟨T, rfl, hT, rfl⟩
        have lt := allLt_iff.mp hT
        refine ⟨dv, nd, .tail _ (.tail _ (M.hm 3 _ _ rfl rfl)), hdz, ?_⟩
        have s9 : ∀ p ∈ l3, p ∈ (T, tupO [.int x.1 t3, .str x2 k9]) :: (I9, oI) :: l3 := fun p h => .tail _ (.tail _ h)
        have nT := M.off rfl fun p h => Nat.ne_of_lt (lt p (.tail _ h))
        have M' := ((M.mono s9).put (o' := lstO (dv ++ [Value.ref T]) (nd + 1)) 3 rfl).wo nI
        have I' := (((I.mono s9).add (.head _) nT).put (o' := lstO (dv ++ [Value.ref T]) (nd + 1)) 3 rfl).wo (a := I9) (List.forall_mem_cons.mpr ⟨Nat.ne_of_gt (lt _ (.head _)), fun p h => offI p (I.sub p h)⟩)
        have up : ∀ p ∈ (T, tupO [.int x.1 t3, .str x2 k9]) :: (I9, oI) :: l3, p.1 ∉ gA f W P H → p ∈ put f.data (lstO (dv ++ [Value.ref T]) (nd + 1)) ((T, tupO [.int x.1 t3, .str x2 k9]) :: (I9, oI) :: l3) := fun p h n => mem_put h fun e => n (e ▸ .tail _ (.tail _ (.tail _ (.head _))))
        have Gm := G.mono (imm' := (T, tupO [.int x.1 t3, .str x2 k9]) :: im) fun p h => .tail _ h
        refine turnE T3 (fun p h => (mem_without.mp h).2) (.mk vw vf vh (dv ++ [Value.ref T]) nw nf nh (nd + 1) oP oL oF _ (dn ++ [(x.1, x2)]) tl2 (nm.upd _ (by decide +kernel) (by decide +kernel) (by decide +kernel) (by decide +kernel)) M' I' (fun p h => .tail _ (sb p h)) ⟨Gm.wh, Gm.fo, Gm.he, Gm.pa, Gm.lo, Gm.fn, Gm.da.append (.cons ⟨T, t3, k9, rfl, .head _⟩ .nil)⟩ (List.forall_mem_cons.mpr ⟨⟨Nat.ne_of_gt (lt _ (s9 _ he |> fun _ => .tail _ he)), Nat.ne_of_gt (lt _ (.tail _ hi))⟩, off⟩) (mem_without.mpr ⟨up _ (s9 _ he) ne9, offI _ he⟩) (mem_without.mpr ⟨up _ (s9 _ hi) ni9, offI _ hi⟩) ⟨t3, (if_neg (by decide +kernel)).trans nl⟩ hr (by rw [← hxs, List.map_cons, List.append_assoc]; rfl)) ?_
        exact fun p h => (List.mem_cons.mp h).elim (fun e => e ▸ up _ (.tail _ (.head _)) nI) fun h => (mem_without.mp h).1
      · rintro m3 l3 ⟨vw, vf, vh, dv, nw, nf, nh, nd, oP, oL, oF, im, dn, tl, nm, M, I, sb, G, off, he, hi, _, hr, hxs⟩
        cases hr
        have e : dn = g.data ++ [(x.1, s), (x.1, Str.ofString "b")] := (List.append_nil _).symm.trans hxs
        subst e
        exact nxt K (.mk nm (.mk vw vf vh dv nw nf nh nd oP oL oF im M I sb G off) he hi)
    refine go_join (GatM prog w f W P H lb (gstep x.1 i g x.2) e9 it9 oe oi) (hw _ _ _ _) (fun hh Q2 K => ?_) (fun h2 Q2 K => ?_) (fun _ _ h => nxt K h)
    · obtain ⟨v9, hx2⟩ := is_while (eq_of_beq hh)
      rw [hx2] at K
      refine go_app W9 (M2.hm 0 _ _ rfl rfl) (pu_name W9 nm2.n2) (pu_name W9 nA) ?_
      rintro _ _ ⟨rfl, rfl⟩
      have q := pe 0 (o' := lstO (vw ++ [Value.int (i : Int) tv]) (nw + 1)) rfl he2 hi2
      exact ⟨vw, nw, M2.hm 0 _ _ rfl rfl, Nat.lt_trans z1 (by decide), nxt K (.mk nm2 (.mk (vw ++ [Value.int (i : Int) tv]) vf vh dv (nw + 1) nf nh nd oP oL oF im (M2.put (o' := lstO (vw ++ [Value.int (i : Int) tv]) (nw + 1)) 0 rfl) (I2.put 0 rfl) sb ⟨.snoc G.wh, G.fo, G.he, G.pa, G.lo, G.fn, G.da⟩ off1) q.1 q.2)⟩
    refine go_join (GatM prog w f W P H lb (gstep x.1 i g x.2) e9 it9 oe oi) (hw _ _ _ _) (fun hh Q2 K => ?_) (fun h3 Q2 K => ?_) (fun _ _ h => nxt K h)
    · obtain ⟨v9, hx2⟩ := is_wend (eq_of_beq hh)
      rw [hx2] at K
      obtain ⟨kvs, d, kk⟩ := G.pa
      refine go_expr W9 (ev_call W9 fact_jn fact_jn2 (C := fun vs l' => vs = [.ref f.o, .ref W, .int (i : Int) tv] ∧ l' = l2) (P := fun _ l' => ∃ o' kvs' vs' n', l' = put f.pairs o' (put W (lstO vs' n') l2) ∧ o'.IsDictOf (PySem.intKind prog w) kvs' ∧ Two (KV NatV) kvs' (joinL i g.whiles g.pairs).2 ∧ IntsV vs' (joinL i g.whiles g.pairs).1) (ar_cons (pu_name W9 nm2.n1) ?_) ?_) ?_
      · rintro _ _ ⟨rfl, rfl⟩
        refine ar_cons (pu_name W9 nm2.n2) ?_
        rintro _ _ ⟨rfl, rfl⟩
        refine ar_cons (pu_name W9 nA) ?_
        rintro _ _ ⟨rfl, rfl⟩
        exact ar_nil ⟨rfl, rfl⟩
      · rintro _ _ ⟨rfl, rfl⟩
        exact jn_call W9.toOk hfl (M2.hm 0 _ _ rfl rfl) (M2.hm 4 _ _ rfl rfl) (fa 0 rfl) (fa 4 rfl) (nn 0 4 rfl rfl (by decide)) d kk G.wh (Nat.lt_trans z5 (by decide)) (Nat.lt_trans z1 (by decide)) hd2
      rintro _ _ ⟨o', kvs', vs', n', rfl, d', k', v'⟩
      have q := pe 0 (o' := lstO vs' n') rfl he2 hi2
      have q := pe 4 (o' := o') rfl q.1 q.2
      exact nxt K (.mk nm2 (.mk vs' vf vh dv n' nf nh nd o' oL oF im ((M2.put (o' := lstO vs' n') 0 rfl).put (o' := o') 4 rfl) ((I2.put 0 rfl).put 4 rfl) sb ⟨v', G.fo, G.he, ⟨kvs', d', k'⟩, G.lo, G.fn, G.da⟩ off1) q.1 q.2)
    refine go_join (GatM prog w f W P H lb (gstep x.1 i g x.2) e9 it9 oe oi) (hw _ _ _ _) (fun hh Q2 K => ?_) (fun h4 Q2 K => ?_) (fun _ _ h => nxt K h)
    · obtain ⟨v9, n9, hx2⟩ := is_def (eq_of_beq hh)
      rw [hx2] at K htl
      obtain ⟨_, k9, x9, rfl⟩ := htl
      obtain ⟨kvs, d, kk⟩ := G.fn
      refine go_app W9 (M2.hm 2 _ _ rfl rfl) (pu_name W9 nm2.n4) (pu_name W9 nA) ?_
      rintro _ _ ⟨rfl, rfl⟩
      rename_i l2
      have q := pe 2 (o' := lstO (vh ++ [Value.int (i : Int) tv]) (nh + 1)) rfl he2 hi2
      have M3 := M2.put (o' := lstO (vh ++ [Value.int (i : Int) tv]) (nh + 1)) 2 rfl
      have I3 := I2.put (o' := lstO (vh ++ [Value.int (i : Int) tv]) (nh + 1)) 2 rfl
      refine ⟨vh, nh, M2.hm 2 _ _ rfl rfl, Nat.lt_trans z3 (by decide), ?_⟩
      generalize put H (lstO (vh ++ [Value.int (i : Int) tv]) (nh + 1)) l2 = l3 at q M3 I3 ⊢
      have hf3 : FlatIn w.params f l3 := hf.mono fun p h => I3.sub p (sb p h)
      have hs3 : ∀ p1 p2 p3 k, Pu c' m2 l3 (.Subscript (.Name (Str.ofString "statement") p1) (.Constant (.int 1) k p2) p3) (StV n9) := fun p1 p2 p3 k => ps_tup (k := 1) (I3.sub _ (sb _ ha)) rfl (by decide) (pu_name W9 nS) pu_int
      rcases kv_at kk n9 with ⟨y1, y2, q1, q2, _⟩ | ⟨q1, q2⟩
      · rw [gstep_old (by rw [q2]; rfl)] at K
        exact go_skip (ts_ninS (bb := true) (hs3 _ _ _ _) (pu_fns W9.toOk hf3 (pu_name W9 nm2.n1)) (M3.hm 6 _ _ rfl rfl) d loF (by rw [q1]; rfl)) (nxt K (.mk nm2 (.mk vw vf (vh ++ [Value.int (i : Int) tv]) dv nw nf (nh + 1) nd oP oL oF im M3 I3 sb ⟨G.wh, G.fo, .snoc G.he, G.pa, G.lo, G.fn, G.da⟩ off1) q.1 q.2))
      · rw [gstep_new (by rw [q2]; rfl)] at K
        refine go_if_t (ts_ninS (bb := false) (hs3 _ _ _ _) (pu_fns W9.toOk hf3 (pu_name W9 nm2.n1)) (M3.hm 6 _ _ rfl rfl) d loF (by rw [q1]; rfl)) fun Q3 C => ?_
        refine go_put (knd := PySem.strKind prog w) (pu_name W9 nA) ?_
        rintro _ _ ⟨rfl, rfl⟩
        refine ⟨f.fns, pu_fns W9.toOk hf3 (pu_name W9 nm2.n1), (hs3 _ _ _ _).mono ?_⟩
        rintro _ _ ⟨⟨t9, rfl⟩, rfl⟩
        have kl := kk.length
        refine ⟨oF, kvs, n9, M3.hm 6 _ _ rfl rfl, d, strKind_is _ _ _ _, Nat.lt_trans (kl ▸ z7) (by decide), fun o' d' => ?_⟩
        have q' := pe 6 (o' := o') rfl q.1 q.2
        exact go_nil (C.nx _ _ (nxt K (.mk nm2 (.mk vw vf (vh ++ [Value.int (i : Int) tv]) dv nw nf (nh + 1) nd oP oL o' im (M3.put (o' := o') 6 rfl) (I3.put 6 rfl) sb ⟨G.wh, G.fo, .snoc G.he, G.pa, G.lo, ⟨_, d', kv_stored kk ⟨tv, rfl⟩⟩, G.da⟩ off1) q'.1 q'.2)))
    refine go_join (GatM prog w f W P H lb (gstep x.1 i g x.2) e9 it9 oe oi) (hw _ _ _ _) (fun hh Q2 K => ?_) (fun h5 Q2 K => ?_) (fun _ _ h => nxt K h)
    · obtain ⟨v9, hx2⟩ := is_fnend (eq_of_beq hh)
      rw [hx2] at K
      obtain ⟨kvs, d, kk⟩ := G.pa
      refine go_expr W9 (ev_call W9 fact_jn fact_jn2 (C := fun vs l' => vs = [.ref f.o, .ref H, .int (i : Int) tv] ∧ l' = l2) (P := fun _ l' => ∃ o' kvs' vs' n', l' = put f.pairs o' (put H (lstO vs' n') l2) ∧ o'.IsDictOf (PySem.intKind prog w) kvs' ∧ Two (KV NatV) kvs' (joinL i g.heads g.pairs).2 ∧ IntsV vs' (joinL i g.heads g.pairs).1) (ar_cons (pu_name W9 nm2.n1) ?_) ?_) ?_
      · rintro _ _ ⟨rfl, rfl⟩
        refine ar_cons (pu_name W9 nm2.n4) ?_
        rintro _ _ ⟨rfl, rfl⟩
        refine ar_cons (pu_name W9 nA) ?_
        rintro _ _ ⟨rfl, rfl⟩
        exact ar_nil ⟨rfl, rfl⟩
      · rintro _ _ ⟨rfl, rfl⟩
        exact jn_call W9.toOk hfl (M2.hm 2 _ _ rfl rfl) (M2.hm 4 _ _ rfl rfl) (fa 2 rfl) (fa 4 rfl) (nn 2 4 rfl rfl (by decide)) d kk G.he (Nat.lt_trans z5 (by decide)) (Nat.lt_trans z3 (by decide)) hd2
      rintro _ _ ⟨o', kvs', vs', n', rfl, d', k', v'⟩
      have q := pe 2 (o' := lstO vs' n') rfl he2 hi2
      have q := pe 4 (o' := o') rfl q.1 q.2
      exact nxt K (.mk nm2 (.mk vw vf vs' dv nw nf n' nd o' oL oF im ((M2.put (o' := lstO vs' n') 2 rfl).put (o' := o') 4 rfl) ((I2.put 2 rfl).put 4 rfl) sb ⟨G.wh, G.fo, v', ⟨kvs', d', k'⟩, G.lo, G.fn, G.da⟩ off1) q.1 q.2)
    refine go_join (GatM prog w f W P H lb (gstep x.1 i g x.2) e9 it9 oe oi) (hw _ _ _ _) (fun hh Q2 K => ?_) (fun h6 Q2 K => ?_) (fun _ _ h => nxt K h)
    · obtain ⟨v9, hx2⟩ := is_for (eq_of_beq hh)
      rw [hx2] at K
      refine go_app W9 (M2.hm 1 _ _ rfl rfl) (pu_name W9 nm2.n3) (pu_name W9 nA) ?_
      rintro _ _ ⟨rfl, rfl⟩
      have q := pe 1 (o' := lstO (vf ++ [Value.int (i : Int) tv]) (nf + 1)) rfl he2 hi2
      exact ⟨vf, nf, M2.hm 1 _ _ rfl rfl, Nat.lt_trans z2 (by decide), nxt K (.mk nm2 (.mk vw (vf ++ [Value.int (i : Int) tv]) vh dv nw (nf + 1) nh nd oP oL oF im (M2.put (o' := lstO (vf ++ [Value.int (i : Int) tv]) (nf + 1)) 1 rfl) (I2.put 1 rfl) sb ⟨G.wh, .snoc G.fo, G.he, G.pa, G.lo, G.fn, G.da⟩ off1) q.1 q.2)⟩
    refine go_join (GatM prog w f W P H lb (gstep x.1 i g x.2) e9 it9 oe oi) (hw _ _ _ _) (fun hh Q2 K => ?_) (fun h7 Q2 K => ?_) (fun _ _ h => nxt K h)
    · obtain ⟨v9, c9, hx2⟩ := is_next (eq_of_beq hh)
      have hc := hnx x.1 v9 c9 (List.mem_of_getElem? (hx.trans (by rw [← hx2])))
      rw [hx2] at K htl
      obtain ⟨_, b9, n9, items9, rfl, hb9, hc9⟩ := htl
      obtain ⟨kvs, d, kk⟩ := G.lo
      refine go_expr W9 (ev_call W9 fact_el fact_el2 (C := fun vs l' => ∃ t9, vs = [.ref f.o, .ref P, .int (i : Int) tv, .int ((max 1 c9 : Nat) : Int) t9] ∧ l' = l2) (P := fun _ l' => ElJ prog w P f.loops l2 im vf.length (endL i (max 1 c9) 0 g.fors g.loops).2 (endL i (max 1 c9) 0 g.fors g.loops).1 l') (ar_cons (pu_name W9 nm2.n1) ?_) ?_) ?_
      · rintro _ _ ⟨rfl, rfl⟩
        refine ar_cons (pu_name W9 nm2.n3) ?_
        rintro _ _ ⟨rfl, rfl⟩
        refine ar_cons (pu_name W9 nA) ?_
        rintro _ _ ⟨rfl, rfl⟩
        refine ar_cons (Pu.as (b := ((max 1 c9 : Nat) : Int)) (pu_max W9 pu_int (pu_len W9 (sb2 _ hb9) (by rw [hc9]; exact Nat.lt_trans hc (by decide)) (pu_tup (k := 1) (sb2 _ ha) rfl (by decide) (pu_name W9 nS) pu_int))) (by rw [hc9]; split <;> omega)) ?_
        rintro _ _ ⟨⟨t9, rfl⟩, rfl⟩
        exact ar_nil ⟨t9, rfl, rfl⟩
      · rintro _ _ ⟨t9, rfl, rfl⟩
        exact el_call W9.toOk hfl (M2.hm 1 _ _ rfl rfl) (M2.hm 5 _ _ rfl rfl) (fa 1 rfl) (fa 5 rfl) (nn 1 5 rfl rfl (by decide)) d kk G.fo (by have := Nat.max_le.mpr ⟨(by decide : 1 ≤ 1000), Nat.le_of_lt hc⟩; omega) (Nat.lt_trans z2 (by decide)) hd2
      rintro _ l' ⟨nw', o1, kvs1, vs1, n1, hq, hl, hs, hn, d1, k1, v1, _⟩
      have sub := put2_sub hq hl hs
      have q := pe 1 (o' := lstO vs1 n1) rfl he2 hi2
      have q := pe 5 (o' := o1) rfl q.1 q.2
      have I3 := ((I2.put (o' := lstO vs1 n1) 1 rfl).put (o' := o1) 5 rfl).mono sub
      have Gm := G.mono (imm' := nw' ++ im) fun p h => List.mem_append_right _ h
      refine nxt K (.mk nm2 (.mk vw vs1 vh dv nw n1 nh nd oP o1 oF (nw' ++ im) (((M2.put (o' := lstO vs1 n1) 1 rfl).put (o' := o1) 5 rfl).mono sub) ⟨List.forall_mem_append.mpr ⟨fun p h => ⟨(hn p h).1, M2.off rfl fun x hx => ((hn p h).2 x hx).symm⟩, I3.hi⟩⟩ (fun p h => List.mem_append_right _ (sb p h)) ⟨Gm.wh, v1, Gm.he, Gm.pa, ⟨kvs1, d1, k1⟩, Gm.fn, Gm.da⟩ (List.forall_mem_append.mpr ⟨fun p h => ⟨(hn p h).2 _ he2, (hn p h).2 _ hi2⟩, off1⟩)) (sub _ q.1) (sub _ q.2))
    have nb : ∀ {y : Str}, (x.2.word == y) = false → ¬ x.2.word = y := fun h e => by rw [e, beq_self_eq_true] at h; cases h
    rw [gstep_else (nb h1) (nb h2) (nb h3) (nb h4) (nb h5) (nb h6) (nb h7)] at K
    exact nxt K (.mk nm2 (.mk vw vf vh dv nw nf nh nd oP oL oF im M2 I2 sb G off1) he2 hi2)
  · rintro m1 l1 ⟨g, nm, s, hr1, hg, ht⟩
    refine go_nil (hret _ _ ⟨W, P, H, ?_⟩)
    rw [List.drop_of_length_le (by rw [hlen]; exact Nat.le_refl _)] at hg
    have hg' : g = gfold 0 .zero rows := hg
    rw [← hg']
    exact s
end
theorem upd_top {x dx : Addr} {i o o' : Obj} {l : Led} (hx : dx < x) (hd : AllLt dx l) : ∀ {top : Led}, (∀ p ∈ top, dx < p.1) → Upd dx o o' (top ++ (x, i) :: (dx, o) :: l) (top ++ (x, i) :: (dx, o') :: l)
  | [], _ => .tail (Nat.ne_of_gt hx) (.head (off_of_lt hd))
  | p :: r, h => .tail (Nat.ne_of_gt (h p (.head _))) (upd_top hx hd fun q hq => h q (.tail _ hq))
theorem cls_set : ∀ P, findIn (Mine.K P) (.ref 54) (Str.ofString "__setattr__") = some (some (.builtin "object.__setattr__")) := fun P => by k_is
theorem cls_over : ∀ P, plainOver (Mine.K P) 54 = true := fun P => by k_is
theorem cls_t1 : ∀ P, takerIn (Mine.K P) 54 (Str.ofString "rows") = some none := fun P => by k_is
theorem cls_t2 : ∀ P, takerIn (Mine.K P) 54 (Str.ofString "places") = some none := fun P => by k_is
theorem cls_t3 : ∀ P, takerIn (Mine.K P) 54 (Str.ofString "data") = some none := fun P => by k_is
theorem cls_t4 : ∀ P, takerIn (Mine.K P) 54 (Str.ofString "pairs") = some none := fun P => by k_is
theorem cls_t5 : ∀ P, takerIn (Mine.K P) 54 (Str.ofString "loops") = some none := fun P => by k_is
theorem cls_t6 : ∀ P, takerIn (Mine.K P) 54 (Str.ofString "fns") = some none := fun P => by k_is
inductive NewF (prog : Program) (w : World) (l : Led) : Value → Led → Prop
  | mk {f : FA} {oPl oP oL oF : Obj} : oPl.IsDictOf (PySem.intKind prog w) [] → oP.IsDictOf (PySem.intKind prog w) [] → oL.IsDictOf (PySem.intKind prog w) [] → oF.IsDictOf (PySem.strKind prog w) [] → (f.places == sysModules) = false → (f.pairs == sysModules) = false → (f.loops == sysModules) = false → (f.fns == sysModules) = false →
      f.d < f.o → f.o < f.rows → f.rows < f.places → f.places < f.data → f.data < f.pairs → f.pairs < f.loops → f.loops < f.fns → AllLt f.d l →
      NewF prog w l (.ref f.o) ([(f.fns, oF), (f.loops, oL), (f.pairs, oP), (f.data, lstO [] 0), (f.places, oPl), (f.rows, lstO [] 0)] ++ (f.o, instObj 54 f.d) :: (f.d, dictOf (f.es w.params) 6) :: l)
section
variable {prog : Program} {w : World}
set_option maxRecDepth 100000 in
set_option maxHeartbeats 4000000 in
theorem flat_new {c : Wc prog w} {sc : Scope} {m : Nm} {l : Led} (W : c.Ok sc) (hdp : c.dp + 10 < recursionLimit) : Tr c m l (call (.ref 54) []) (NewF prog w l) := by
  refine' tr_cls (self := Str.ofString "self") W ?hm ?hi ?hf ?ho ?hcd ?hr ?hw ?hb ?hl ?h1 ?h2 ?h3 ?h4 ?_
  (case hm => k_is)
  (case hi => k_is)
  (case hf => k_is)
  (case ho => k_is)
  (case hcd => k_is)
  (case hr => omega)
  (case hw => decide)
  (case hb => intro x; exact rfl)
  (case hl => exact rfl)
  (case h1 => exact rfl)
  (case h2 => exact rfl)
  (case h3 => exact rfl)
  (case h4 => decide)
  intro c' Q x dx W hd hx hret
  refine go_setA W ev_nil (C := 54) (dx := dx) rfl cls_set cls_over cls_t1 fact_dict ?_
  rintro _ _ ⟨a1, rfl, rfl, h1⟩
  have d1 : dx < a1 := h1.2.1
  refine ⟨[], 0, fun tk => [(a1, lstO [] 0)] ++ (x, instObj 54 dx) :: (dx, dictOf [strE w.params (Str.ofString "rows") tk (.ref a1)] 1) :: l, .tail _ (.head _), .tail _ (.tail _ (.head _)), rfl, Nat.le_of_ble_eq_true rfl, fun k0 => ⟨_, _, rfl, Nat.le_of_ble_eq_true rfl, upd_top (top := [(a1, lstO [] 0)]) hx hd (List.forall_mem_cons.mpr ⟨d1, fun _ h => nomatch h⟩), ?_⟩⟩
  dsimp only [List.cons_append, List.nil_append]
  refine go_setA W (ev_dict0 W.toOk) (C := 54) (dx := dx) rfl cls_set cls_over cls_t2 fact_dict ?_
  rintro _ _ ⟨a2, o2, rfl, rfl, h2, lo2, hi2, hs2⟩
  have d2 : dx < a2 := h2.2.2.1
  refine ⟨[strE w.params (Str.ofString "rows") k0 (.ref a1)], 1, fun tk => [(a2, o2), (a1, lstO [] 0)] ++ (x, instObj 54 dx) :: (dx, dictOf [strE w.params (Str.ofString "rows") k0 (.ref a1), strE w.params (Str.ofString "places") tk (.ref a2)] 2) :: l, .tail _ (.tail _ (.head _)), .tail _ (.tail _ (.tail _ (.head _))), rfl, Nat.le_of_ble_eq_true rfl, fun k1 => ⟨_, _, rfl, Nat.le_of_ble_eq_true rfl, upd_top (top := [(a2, o2), (a1, lstO [] 0)]) hx hd (List.forall_mem_cons.mpr ⟨d2, List.forall_mem_cons.mpr ⟨d1, fun _ h => nomatch h⟩⟩), ?_⟩⟩
  dsimp only [List.cons_append, List.nil_append]
  refine go_setA W ev_nil (C := 54) (dx := dx) rfl cls_set cls_over cls_t3 fact_dict ?_
  rintro _ _ ⟨a3, rfl, rfl, h3⟩
  have d3 : dx < a3 := h3.2.2.2.1
  refine ⟨[strE w.params (Str.ofString "rows") k0 (.ref a1), strE w.params (Str.ofString "places") k1 (.ref a2)], 2, fun tk => [(a3, lstO [] 0), (a2, o2), (a1, lstO [] 0)] ++ (x, instObj 54 dx) :: (dx, dictOf [strE w.params (Str.ofString "rows") k0 (.ref a1), strE w.params (Str.ofString "places") k1 (.ref a2), strE w.params (Str.ofString "data") tk (.ref a3)] 3) :: l, .tail _ (.tail _ (.tail _ (.head _))), .tail _ (.tail _ (.tail _ (.tail _ (.head _)))), rfl, Nat.le_of_ble_eq_true rfl, fun k2 => ⟨_, _, rfl, Nat.le_of_ble_eq_true rfl, upd_top (top := [(a3, lstO [] 0), (a2, o2), (a1, lstO [] 0)]) hx hd (List.forall_mem_cons.mpr ⟨d3, List.forall_mem_cons.mpr ⟨d2, List.forall_mem_cons.mpr ⟨d1, fun _ h => nomatch h⟩⟩⟩), ?_⟩⟩
  dsimp only [List.cons_append, List.nil_append]
  refine go_setA W (ev_dict0 W.toOk) (C := 54) (dx := dx) rfl cls_set cls_over cls_t4 fact_dict ?_
  rintro _ _ ⟨a4, o4, rfl, rfl, h4, lo4, hi4, hs4⟩
  have d4 : dx < a4 := h4.2.2.2.2.1
  refine ⟨[strE w.params (Str.ofString "rows") k0 (.ref a1), strE w.params (Str.ofString "places") k1 (.ref a2), strE w.params (Str.ofString "data") k2 (.ref a3)], 3, fun tk => [(a4, o4), (a3, lstO [] 0), (a2, o2), (a1, lstO [] 0)] ++ (x, instObj 54 dx) :: (dx, dictOf [strE w.params (Str.ofString "rows") k0 (.ref a1), strE w.params (Str.ofString "places") k1 (.ref a2), strE w.params (Str.ofString "data") k2 (.ref a3), strE w.params (Str.ofString "pairs") tk (.ref a4)] 4) :: l, .tail _ (.tail _ (.tail _ (.tail _ (.head _)))), .tail _ (.tail _ (.tail _ (.tail _ (.tail _ (.head _))))), rfl, Nat.le_of_ble_eq_true rfl, fun k3 => ⟨_, _, rfl, Nat.le_of_ble_eq_true rfl, upd_top (top := [(a4, o4), (a3, lstO [] 0), (a2, o2), (a1, lstO [] 0)]) hx hd (List.forall_mem_cons.mpr ⟨d4, List.forall_mem_cons.mpr ⟨d3, List.forall_mem_cons.mpr ⟨d2, List.forall_mem_cons.mpr ⟨d1, fun _ h => nomatch h⟩⟩⟩⟩), ?_⟩⟩
  dsimp only [List.cons_append, List.nil_append]
  refine go_setA W (ev_dict0 W.toOk) (C := 54) (dx := dx) rfl cls_set cls_over cls_t5 fact_dict ?_
  rintro _ _ ⟨a5, o5, rfl, rfl, h5, lo5, hi5, hs5⟩
  have d5 : dx < a5 := h5.2.2.2.2.2.1
  refine ⟨[strE w.params (Str.ofString "rows") k0 (.ref a1), strE w.params (Str.ofString "places") k1 (.ref a2), strE w.params (Str.ofString "data") k2 (.ref a3), strE w.params (Str.ofString "pairs") k3 (.ref a4)], 4, fun tk => [(a5, o5), (a4, o4), (a3, lstO [] 0), (a2, o2), (a1, lstO [] 0)] ++ (x, instObj 54 dx) :: (dx, dictOf [strE w.params (Str.ofString "rows") k0 (.ref a1), strE w.params (Str.ofString "places") k1 (.ref a2), strE w.params (Str.ofString "data") k2 (.ref a3), strE w.params (Str.ofString "pairs") k3 (.ref a4), strE w.params (Str.ofString "loops") tk (.ref a5)] 5) :: l, .tail _ (.tail _ (.tail _ (.tail _ (.tail _ (.head _))))), .tail _ (.tail _ (.tail _ (.tail _ (.tail _ (.tail _ (.head _)))))), rfl, Nat.le_of_ble_eq_true rfl, fun k4 => ⟨_, _, rfl, Nat.le_of_ble_eq_true rfl, upd_top (top := [(a5, o5), (a4, o4), (a3, lstO [] 0), (a2, o2), (a1, lstO [] 0)]) hx hd (List.forall_mem_cons.mpr ⟨d5, List.forall_mem_cons.mpr ⟨d4, List.forall_mem_cons.mpr ⟨d3, List.forall_mem_cons.mpr ⟨d2, List.forall_mem_cons.mpr ⟨d1, fun _ h => nomatch h⟩⟩⟩⟩⟩), ?_⟩⟩
  dsimp only [List.cons_append, List.nil_append]
  refine go_setA W (ev_dict0 W.toOk) (C := 54) (dx := dx) rfl cls_set cls_over cls_t6 fact_dict ?_
  rintro _ _ ⟨a6, o6, rfl, rfl, h6, lo6, hi6, hs6⟩
  have d6 : dx < a6 := h6.2.2.2.2.2.2.1
  refine ⟨[strE w.params (Str.ofString "rows") k0 (.ref a1), strE w.params (Str.ofString "places") k1 (.ref a2), strE w.params (Str.ofString "data") k2 (.ref a3), strE w.params (Str.ofString "pairs") k3 (.ref a4), strE w.params (Str.ofString "loops") k4 (.ref a5)], 5, fun tk => [(a6, o6), (a5, o5), (a4, o4), (a3, lstO [] 0), (a2, o2), (a1, lstO [] 0)] ++ (x, instObj 54 dx) :: (dx, dictOf [strE w.params (Str.ofString "rows") k0 (.ref a1), strE w.params (Str.ofString "places") k1 (.ref a2), strE w.params (Str.ofString "data") k2 (.ref a3), strE w.params (Str.ofString "pairs") k3 (.ref a4), strE w.params (Str.ofString "loops") k4 (.ref a5), strE w.params (Str.ofString "fns") tk (.ref a6)] 6) :: l, .tail _ (.tail _ (.tail _ (.tail _ (.tail _ (.tail _ (.head _)))))), .tail _ (.tail _ (.tail _ (.tail _ (.tail _ (.tail _ (.tail _ (.head _))))))), rfl, Nat.le_of_ble_eq_true rfl, fun k5 => ⟨_, _, rfl, Nat.le_of_ble_eq_true rfl, upd_top (top := [(a6, o6), (a5, o5), (a4, o4), (a3, lstO [] 0), (a2, o2), (a1, lstO [] 0)]) hx hd (List.forall_mem_cons.mpr ⟨d6, List.forall_mem_cons.mpr ⟨d5, List.forall_mem_cons.mpr ⟨d4, List.forall_mem_cons.mpr ⟨d3, List.forall_mem_cons.mpr ⟨d2, List.forall_mem_cons.mpr ⟨d1, fun _ h => nomatch h⟩⟩⟩⟩⟩⟩), ?_⟩⟩
  dsimp only [List.cons_append, List.nil_append]
  refine go_nil (hret _ _ (NewF.mk (f := ⟨x, dx, a1, a2, a3, a4, a5, a6, k0, k1, k2, k3, k4, k5⟩) hi2 hi4 hi5 hs6 lo2 lo4 lo5 lo6 hx h1.1 h2.1 h3.1 h4.1 h5.1 h6.1 hd))
end
theorem RowsAt.toL {imm : Led} {line : Int} {vs : List Value} {rs : List RK} (h : RowsAt imm line vs rs) : RowsL imm vs (rs.map (line, ·)) := by
  induction h with
  | nil => exact .nil
  | cons h _ ih => exact .cons h ih
theorem RowsL.mono {imm imm' : Led} {vs : List Value} {rs : List (Int × RK)} (hs : ∀ p ∈ imm, p ∈ imm') (h : RowsL imm vs rs) : RowsL imm' vs rs := Two.mono (fun _ _ h => h.mono hs) h
inductive CompL : List (Int × RK) → List (Int × Nat) → List (Int × T) → List (Int × RK) → List (Int × Nat) → Prop
  | nil {rows pl} : CompL rows pl [] rows pl
  | some {rows pl ln t ts r p} : comp rows.length t ≠ [] → CompL (rows ++ (comp rows.length t).map (ln, ·)) (putA pl ln rows.length) ts r p → CompL rows pl ((ln, t) :: ts) r p
  | none {rows pl ln t ts r p v} : comp rows.length t = [] → CompL (rows ++ [(ln, .leaf v (.rem (Str.ofString "")))]) (putA pl ln rows.length) ts r p → CompL rows pl ((ln, t) :: ts) r p
noncomputable def LineAt (l : Led) (v : Value) (x : Int × T) : Prop := ∃ b t q xs nq, v = .ref b ∧ (b, tupO [.int x.1 t, .ref q]) ∈ l ∧ (q, lstO xs nq) ∈ l ∧ RepT l xs x.2
theorem LineAt.mono {l l' : Led} {v : Value} {x : Int × T} (hs : ∀ p ∈ l, p ∈ l') (h : LineAt l v x) : LineAt l' v x := let ⟨b, t, q, xs, nq, e, h1, h2, h3⟩ := h; ⟨b, t, q, xs, nq, e, hs _ h1, hs _ h2, h3.mono hs⟩
noncomputable def wgt : List (Int × T) → Nat
  | [] => 0
  | x :: r => x.2.size + 1 + wgt r
noncomputable def OkL (N : Nat) (ts : List (Int × T)) : Prop := ∀ x ∈ ts, OkT N x.2 ∧ x.2.hgt ≤ 2
theorem comp_nx {N : Nat} : ∀ {t : T} {n : Nat}, OkT N t → ∀ {v l}, RK.leaf v l ∈ comp n t → l.nx ≤ 2
  | .nil, _, _, _, _, h => nomatch h
  | .leaf v l r, n, ho, v', l', h => by
    rw [comp] at h
    rcases List.mem_cons.mp h with h | h
    · cases h; exact ho.1
    · exact comp_nx (t := r) ho.2 h
  | .ite v mk a b r, n, ho, v', l', h => by
    by_cases hb : b = .nil
    · subst hb
      rw [comp] at h
      rcases List.mem_cons.mp h with h | h
      · cases h
      rcases List.mem_append.mp h with h | h
      · exact comp_nx (t := a) ho.2.1 h
      · exact comp_nx (t := r) ho.2.2.2 h
    · rw [comp_ite hb] at h
      rcases List.mem_cons.mp h with h | h
      · cases h
      rcases List.mem_append.mp h with h | h
      · exact comp_nx (t := a) ho.2.1 h
      rcases List.mem_cons.mp h with h | h
      · cases h
      rcases List.mem_append.mp h with h | h
      · exact comp_nx (t := b) ho.2.2.1 h
      · exact comp_nx (t := r) ho.2.2.2 h
theorem fact_Flat : ∀ P, nsIn (Mine.K P) mainGlobals (Str.ofString "Flat") = some (some (.ref 54)) := fun P => by k_is
theorem fact_Flat2 : ∀ P, keepIn (Mine.K P) (.ref 54) = true := fun P => by k_is
theorem fact_gat : ∀ P, nsIn (Mine.K P) mainGlobals (Str.ofString "gather") = some (some (.ref 86)) := fun P => by k_is
theorem fact_gat2 : ∀ P, keepIn (Mine.K P) (.ref 86) = true := fun P => by k_is
inductive FlatAt (prog : Program) (w : World) (ts : List (Int × T)) (l : Led) : Value → Led → Prop
  | mk {f : FA} {its dv vw vf vh : List Value} {n nd : Nat} {rows : List (Int × RK)} {pl : List (Int × Nat)} {oPl oP oL oF : Obj} {kvPl : List (Int × Value)} {l' : Led} : (∀ p ∈ l, p ∈ l') → FlatIn w.params f l' → (f.rows, lstO its n) ∈ l' → RowsL l' its rows → CompL [] [] ts rows pl → rows.length < 300 → DictIn prog w l' f.places oPl kvPl → Two (KV NatV) kvPl pl →
      (f.data, lstO dv nd) ∈ l' → (f.pairs, oP) ∈ l' → (f.loops, oL) ∈ l' → (f.fns, oF) ∈ l' → (f.pairs == sysModules) = false → (f.loops == sysModules) = false → (f.fns == sysModules) = false → GRep prog w l' (gfold 0 .zero rows) vw vf vh dv oP oL oF → FlatAt prog w ts l (.ref f.o) l'
theorem wgt_len : ∀ ts : List (Int × T), ts.length ≤ wgt ts
  | [] => Nat.le_refl _
  | x :: r => by have := wgt_len r; simp only [List.length_cons, wgt]; omega
theorem at_stored {K : Type} [DecidableEq K] (kvs : List (K × Value)) (k : K) (v : Value) : valueAt (stored kvs k v) k = some v := by
  unfold stored valueAt
  split
  · rename_i h
    induction kvs with
    | nil => simp at h
    | cons x r ih =>
      simp only [List.map_cons, List.find?_cons]
      by_cases hx : x.1 = k
      · simp [hx]
      · simp only [List.any_cons, hx, decide_false, Bool.false_or] at h
        rw [if_neg hx]
        simp only [hx, decide_false]
        exact ih h
  · rename_i h
    have : kvs.find? (fun kv => decide (kv.1 = k)) = none := by
      rw [List.find?_eq_none]
      intro x hx hk
      exact h (List.any_eq_true.mpr ⟨x, hx, hk⟩)
    rw [List.find?_append, this]
    simp
noncomputable abbrev fA (f : FA) : List Addr := [f.rows, f.places, f.data, f.pairs, f.loops, f.fns]
theorem Mut.tail {a : Addr} {o : Obj} {as : List Addr} {st : List Obj} {l : Led} (M : Mut (a :: as) (o :: st) l) : Mut as st l := ⟨(List.nodup_cons.mp M.nd).2, fun k b x h1 h2 => M.hm (k + 1) b x h1 h2⟩
theorem Imm.grow {a : Addr} {o : Obj} {as : List Addr} {st : List Obj} {im l nw l' : Led} (I : Imm as im l) (M : Mut as st l) (hl : as.length = st.length) (g : Grow a l nw l') (k : Nat) (hk : as[k]? = some a) (ho : (a, o) ∈ l') : Imm as (nw ++ im) l' :=
  ⟨List.forall_mem_append.mpr ⟨fun p h => ⟨(g.n p h).1, M.off hl fun x hx => ((g.n p h).2 x hx).symm⟩, ((I.put (o' := o) k hk).mono fun p h => (List.mem_cons.mp h).elim (fun e => e ▸ ho) fun h => g.s p (mem_without.mp h).1 (mem_without.mp h).2).hi⟩⟩
theorem Mut.grow {a : Addr} {o : Obj} {as : List Addr} {st : List Obj} {l nw l' : Led} (M : Mut as st l) (g : Grow a l nw l') (k : Nat) (hk : as[k]? = some a) (ho : (a, o) ∈ l') : Mut as (st.set k o) l' :=
  (M.put k hk).mono fun p h => (List.mem_cons.mp h).elim (fun e => e ▸ ho) fun h => g.s p (mem_without.mp h).1 (mem_without.mp h).2
inductive FlJ (prog : Program) (w : World) (f : FA) (l : Led) (oP oL oF : Obj) (ts : List (Int × T)) (N : Nat) (r : List Value) (m : Nm) (l1 : Led) : Prop
  | mk (its : List Value) (n : Nat) (im : Led) (oPl : Obj) (kvPl : List (Int × Value)) (rows : List (Int × RK)) (pl : List (Int × Nat)) (rs : List (Int × T)) (nf : m (Str.ofString "flat") = some (.ref f.o)) (M : Mut (fA f) [lstO its n, oPl, lstO [] 0, oP, oL, oF] l1) (I : Imm (fA f) im l1) (h1 : ∀ p ∈ l, p ∈ im) (hf : FlatIn w.params f im) (hR : RowsL im its rows) (hd1 : oPl.IsDictOf (PySem.intKind prog w) kvPl) (tP : Two (KV NatV) kvPl pl) (hL : Two (LineAt l) r rs) (hOL : OkL N rs) (hw9 : rows.length + wgt rs < 299) (hk : kvPl.length + rs.length < 1000) (hC : ∀ a b, CompL rows pl rs a b → CompL [] [] ts a b) (hnx : ∀ ln v k, (ln, RK.leaf v (.next k)) ∈ rows → k < 1000)
section
variable {prog : Program} {w : World}
set_option maxRecDepth 100000 in
set_option maxHeartbeats 4000000 in
theorem flatten_call {c : Wc prog w} {sc : Scope} {m : Nm} {l : Led} {pl9 : Addr} {pv : List Value} {np N : Nat} {ts : List (Int × T)} (W : c.Ok sc) (hp : (pl9, lstO pv np) ∈ l) (hl : Two (LineAt l) pv ts) (hO : OkL N ts) (hw : wgt ts < 299) (hdp : c.dp + 60 < recursionLimit) :
    Tr c m l (call (.ref 107) [.ref pl9]) (FlatAt prog w ts l) := by
  refine' tr_def (binds := [(Str.ofString "parsed", .ref pl9)]) W ?ho ?hcd ?hr ?hb ?hl ?h1 ?h2 ?h3 ?h4 ?_
  (case ho => k_is)
  (case hcd => k_is)
  (case hr => exact Nat.lt_of_le_of_lt (Nat.le_add_right _ _) hdp)
  (case hb => exact rfl)
  (case hl => exact locs rfl)
  (case h1 => exact rfl)
  (case h2 => exact rfl)
  (case h3 => exact rfl)
  (case h4 => decide)
  clear W
  intro c' Q W hd9 _ hret _
  have hd50 : c'.dp + 50 < recursionLimit := by omega
  clear hd9 hdp
  refine go_assign W (ev_call0' W.toOk (pu_gname W fact_Flat) fact_Flat2 (flat_new W.toOk (dp_le hd50 (Nat.add_le_add_left (by decide) _)))) ?_
  rintro _ _ ⟨hiPl, hiP, hiL, hsF, loPl, loP, loL, loF, g1, g2, g3, g4, g5, g6, g7, g8⟩
  rename_i f oPl oP oL oF
  have big : ∀ a ∈ fA f, f.rows ≤ a := List.forall_mem_cons.mpr ⟨Nat.le_refl _, List.forall_mem_cons.mpr ⟨Nat.le_of_lt g3, List.forall_mem_cons.mpr ⟨Nat.le_of_lt (Nat.lt_trans g3 g4), List.forall_mem_cons.mpr ⟨Nat.le_of_lt (Nat.lt_trans (Nat.lt_trans g3 g4) g5), List.forall_mem_cons.mpr ⟨Nat.le_of_lt (Nat.lt_trans (Nat.lt_trans (Nat.lt_trans g3 g4) g5) g6), List.forall_mem_singleton.mpr (Nat.le_of_lt (Nat.lt_trans (Nat.lt_trans (Nat.lt_trans (Nat.lt_trans g3 g4) g5) g6) g7))⟩⟩⟩⟩⟩
  have low : ∀ p ∈ (f.o, instObj 54 f.d) :: (f.d, dictOf (f.es w.params) 6) :: l, p.1 < f.rows := List.forall_mem_cons.mpr ⟨g2, List.forall_mem_cons.mpr ⟨Nat.lt_trans g1 g2, fun p h => Nat.lt_trans (allLt_iff.mp g8 p h) (Nat.lt_trans g1 g2)⟩⟩
  have nd : (fA f).Nodup := by
    have chain : ∀ (as : List Nat), as.Pairwise (· < ·) → as.Nodup := fun as h => h.imp Nat.ne_of_lt
    refine chain _ (List.pairwise_cons.mpr ⟨fun a h => Nat.lt_of_lt_of_le g3 ?_, List.pairwise_cons.mpr ⟨fun a h => Nat.lt_of_lt_of_le g4 ?_, List.pairwise_cons.mpr ⟨fun a h => Nat.lt_of_lt_of_le g5 ?_, List.pairwise_cons.mpr ⟨fun a h => Nat.lt_of_lt_of_le g6 ?_, List.pairwise_cons.mpr ⟨List.forall_mem_singleton.mpr g7, List.pairwise_singleton _ _⟩⟩⟩⟩⟩)
    · revert a; exact List.forall_mem_cons.mpr ⟨Nat.le_refl _, List.forall_mem_cons.mpr ⟨Nat.le_of_lt g4, List.forall_mem_cons.mpr ⟨Nat.le_of_lt (Nat.lt_trans g4 g5), List.forall_mem_cons.mpr ⟨Nat.le_of_lt (Nat.lt_trans (Nat.lt_trans g4 g5) g6), List.forall_mem_singleton.mpr (Nat.le_of_lt (Nat.lt_trans (Nat.lt_trans (Nat.lt_trans g4 g5) g6) g7))⟩⟩⟩⟩
    · revert a; exact List.forall_mem_cons.mpr ⟨Nat.le_refl _, List.forall_mem_cons.mpr ⟨Nat.le_of_lt g5, List.forall_mem_cons.mpr ⟨Nat.le_of_lt (Nat.lt_trans g5 g6), List.forall_mem_singleton.mpr (Nat.le_of_lt (Nat.lt_trans (Nat.lt_trans g5 g6) g7))⟩⟩⟩
    · revert a; exact List.forall_mem_cons.mpr ⟨Nat.le_refl _, List.forall_mem_cons.mpr ⟨Nat.le_of_lt g6, List.forall_mem_singleton.mpr (Nat.le_of_lt (Nat.lt_trans g6 g7))⟩⟩
    · revert a; exact List.forall_mem_cons.mpr ⟨Nat.le_refl _, List.forall_mem_singleton.mpr (Nat.le_of_lt g7)⟩
  obtain ⟨l0, hl0⟩ : ∃ l0 : Led, l0 = [(f.fns, oF), (f.loops, oL), (f.pairs, oP), (f.data, lstO [] 0), (f.places, oPl), (f.rows, lstO [] 0)] ++ (f.o, instObj 54 f.d) :: (f.d, dictOf (f.es w.params) 6) :: l := ⟨_, rfl⟩
  have M0 : Mut (fA f) [lstO [] 0, oPl, lstO [] 0, oP, oL, oF] l0 := ⟨nd, fun k a o h1 h2 => by
    rw [hl0]
    match k, h1, h2 with
    | 0, h1, h2 => cases h1; cases h2; exact .tail _ (.tail _ (.tail _ (.tail _ (.tail _ (.head _)))))
    | 1, h1, h2 => cases h1; cases h2; exact .tail _ (.tail _ (.tail _ (.tail _ (.head _))))
    | 2, h1, h2 => cases h1; cases h2; exact .tail _ (.tail _ (.tail _ (.head _)))
    | 3, h1, h2 => cases h1; cases h2; exact .tail _ (.tail _ (.head _))
    | 4, h1, h2 => cases h1; cases h2; exact .tail _ (.head _)
    | 5, h1, h2 => cases h1; cases h2; exact .head _⟩
  have I0 : Imm (fA f) ((f.o, instObj 54 f.d) :: (f.d, dictOf (f.es w.params) 6) :: l) l0 := ⟨fun p h => ⟨hl0 ▸ List.mem_append_right _ h, fun hm => Nat.lt_irrefl _ (Nat.lt_of_lt_of_le (low p h) (big _ hm))⟩⟩
  rw [← hl0]
  refine go_forL W (FlJ prog w f l oP oL oF ts N) (items := pv) (k9 := np) (pu_name W rfl)
    (.mk [] 0 _ oPl [] [] [] ts rfl M0 I0 (fun p h => .tail _ (.tail _ h)) ⟨.head _, .tail _ (.head _)⟩ .nil hiPl .nil hl hO (by rw [List.length_nil, Nat.zero_add]; exact hw) (by have := wgt_len ts; rw [List.length_nil]; omega) (fun a b h => h) (fun _ _ _ h => nomatch h)) (fun r m1 l1 ⟨_, _, _, _, _, _, _, _, _, _, I, h1, _, _, _, _, _, _, _, _, _, _⟩ => I.sub _ (h1 _ hp)) ?_ ?_
  · clear M0 I0 hl0 nd low big hiPl hret
    rintro v r m1 l1 I9 o Q' ⟨its, n, im, oPl, kvPl, rows, pl, rs, nf, M, I, h1, hf, hR, hd1, tP, hL, hOL, hw9, hk, hC, hnx⟩ offI T9
    cases hL with
    | @cons _ x _ rs hv hr =>
    obtain ⟨ln, t⟩ := x
    obtain ⟨b, tl, q, xs, nq, rfl, hb, hq, hRT⟩ := hv
    have hlen := hR.length
    have hhgt := (hOL _ (.head _)).2
    simp only [wgt] at hw9
    simp only [List.length_cons] at hk
    dsimp only at hhgt
    have nI := M.off rfl offI
    have s2 : ∀ p ∈ l1, p ∈ (I9, o) :: l1 := fun p h => .tail _ h
    have M2 := M.mono s2
    have I2 := I.mono s2
    refine gt_pair W (I2.sub _ (h1 _ hb)) ?_
    have nf2 : upd (upd m1 (Str.ofString "line") (.int ln tl)) (Str.ofString "statements") (.ref q) (Str.ofString "flat") = some (.ref f.o) := (if_neg (by decide +kernel)).trans ((if_neg (by decide +kernel)).trans nf)
    have nl2 : upd (upd m1 (Str.ofString "line") (.int ln tl)) (Str.ofString "statements") (.ref q) (Str.ofString "line") = some (.int ln tl) := (if_neg (by decide +kernel)).trans (if_pos rfl)
    have ns2 : upd (upd m1 (Str.ofString "line") (.int ln tl)) (Str.ofString "statements") (.ref q) (Str.ofString "statements") = some (.ref q) := if_pos rfl
    generalize upd (upd m1 (Str.ofString "line") (.int ln tl)) (Str.ofString "statements") (.ref q) = m2 at nf2 nl2 ns2 ⊢
    refine go_put (knd := PySem.intKind prog w) (pu_len W (M2.hm 0 _ _ rfl rfl) (by omega) (pu_rows W.toOk (hf.mono I2.sub) (pu_name W nf2))) ?_
    rintro _ _ ⟨⟨tz, rfl⟩, rfl⟩
    refine ⟨f.places, pu_places W.toOk (hf.mono I2.sub) (pu_name W nf2), (pu_name W nl2).mono ?_⟩
    rintro _ _ ⟨rfl, rfl⟩
    refine ⟨oPl, kvPl, ln, M2.hm 1 _ _ rfl rfl, hd1, intKind_is _ _ _ _, by omega, fun o2 hd2 => ?_⟩
    have M3 := M2.put (o' := o2) 1 rfl
    have I3 := I2.put (o' := o2) 1 rfl
    have hI3 : (I9, o) ∈ put f.places o2 ((I9, o) :: l1) := mem_put (.head _) fun (e : I9 = f.places) => nI (e ▸ .tail _ (.head _))
    have off3 : ∀ p ∈ im, p.1 ≠ I9 := fun p h => offI p (I.sub p h)
    generalize put f.places o2 ((I9, o) :: l1) = l3 at M3 I3 hI3 ⊢
    have hr3 := M3.hm 0 _ _ rfl rfl
    refine go_expr W (ev_call3 W fact_all fact_all2 (pu_name W nf2) (pu_name W nl2) (pu_name W ns2) (pall prog w t W.toOk ⟨hf, fun p h => ⟨I3.sub p h, fun (e : p.1 = f.rows) => (I3.hi p h).2 (e ▸ .head _)⟩⟩ hr3 (h1 _ hq) (hRT.mono h1) (by omega) (by omega))) ?_
    rintro _ l4 ⟨vals, nw, n4, hr4, G4, R4⟩
    have M4 := M3.grow G4 0 rfl hr4
    have I4 := I3.grow M3 rfl G4 0 rfl hr4
    have hI4 : (I9, o) ∈ l4 := G4.s _ hI3 fun (e : I9 = f.rows) => nI (e ▸ .head _)
    have off4 : ∀ p ∈ nw ++ im, p.1 ≠ I9 := List.forall_mem_append.mpr ⟨fun p h => (G4.n p h).2 _ hI3, off3⟩
    have up4 : ∀ p ∈ im, p ∈ nw ++ im := fun p h => List.mem_append_right _ h
    have hvl := R4.length
    have hcl := comp_length_le t its.length
    have hst := stored_le kvPl ln (.int ((its.length : Nat) : Int) tz)
    have tP2 : Two (KV NatV) (stored kvPl ln (.int ((its.length : Nat) : Int) tz)) (putA pl ln rows.length) := kv_stored tP ⟨tz, by rw [hlen]⟩
    have hla : (its ++ vals).length = its.length + vals.length := List.length_append
    have tst : ∀ {bb : Bool} p1 p2 p3 p4 p5 p6 p7 p8 p9, (((its.length : Nat) : Int) == (((its ++ vals).length : Nat) : Int)) = bb → Ts c' m2 l4 (.Compare (.Subscript (.Attribute (.Name (Str.ofString "flat") p1) (Str.ofString "places") p2) (.Name (Str.ofString "line") p3) p4) [.Eq] [.Call (.Name (Str.ofString "len") p5) [.Attribute (.Name (Str.ofString "flat") p6) (Str.ofString "rows") p7] [] p8] p9) bb := fun p1 p2 p3 p4 p5 p6 p7 p8 p9 hb => Ts.as (ts_int rfl (Pu.int (pu_dictI (pu_places W.toOk (hf.mono fun p h => I4.sub p (up4 p h)) (pu_name W nf2)) (pi_name W nl2) (M4.hm 1 _ _ rfl rfl) hd2 (at_stored _ _ _))) (pu_len W hr4 (by omega) (pu_rows W.toOk (hf.mono fun p h => I4.sub p (up4 p h)) (pu_name W nf2)))) hb
    by_cases hcomp : comp its.length t = []
    · have hv0 : vals = [] := List.eq_nil_of_length_eq_zero (by rw [hvl, hcomp]; rfl)
      subst hv0
      refine go_if_t (tst _ _ _ _ _ _ _ _ _ (by rw [List.append_nil]; exact beq_self_eq_true _)) fun Q2 C => ?_
      clear tst
      rw [List.append_nil] at hr4 M4
      refine go_expr W (P := fun v l' => ∃ tT k1 k2 l5, AllLt tT l4 ∧ l5 = (tT, tupO [.str (Str.ofString "REM") k1, .str (Str.ofString "") k2]) :: l4 ∧ RowR f.rows l5 its (.int ln tl) (.ref tT) v l') (ev_call W fact_row fact_row2 (C := fun as l' => ∃ tT k1 k2, as = [.ref f.o, .int ln tl, .ref tT] ∧ AllLt tT l4 ∧ l' = (tT, tupO [.str (Str.ofString "REM") k1, .str (Str.ofString "") k2]) :: l4) (ar_cons (pu_name W nf2) ?_) ?_) ?_
      · rintro _ _ ⟨rfl, rfl⟩
        refine ar_cons (pu_name W nl2) ?_
        rintro _ _ ⟨rfl, rfl⟩
        rename_i l4
        refine ar_cons (P1 := fun v l' => ∃ tT k1 k2, v = .ref tT ∧ AllLt tT l4 ∧ l' = (tT, tupO [.str (Str.ofString "REM") k1, .str (Str.ofString "") k2]) :: l4) (ev_tup (P1 := fun as l' => (∃ k1 k2, as = [.str (Str.ofString "REM") k1, .str (Str.ofString "") k2]) ∧ l' = l4) (ar_cons pu_str ?_) ?_) ?_
        · rintro _ _ ⟨⟨k1, rfl⟩, rfl⟩
          refine ar_cons pu_str ?_
          rintro _ _ ⟨⟨k2, rfl⟩, rfl⟩
          exact ar_nil ⟨⟨k1, k2, rfl⟩, rfl⟩
        · rintro _ _ ⟨⟨k1, k2, rfl⟩, rfl⟩
          exact ⟨Nat.le_of_ble_eq_true rfl, fun D hD => ⟨D, k1, k2, rfl, hD, rfl⟩⟩
        rintro _ _ ⟨tT, k1, k2, rfl, hT, rfl⟩
        exact ar_nil ⟨tT, k1, k2, rfl, hT, rfl⟩
      · rintro _ _ ⟨tT, k1, k2, rfl, hT, rfl⟩
        exact (prow W.toOk (hf.mono fun p h => .tail _ (I4.sub p (up4 p h))) (.tail _ hr4) (by omega) (dp_le hd50 (Nat.add_le_add_left (by decide) _)) (I4.flat (hf.mono up4) 0 rfl)).mono fun v l' h => ⟨tT, k1, k2, _, hT, rfl, h⟩
      rintro v9 l6 ⟨tT, k1, k2, l5, hT, rfl, ⟨tu, n6, t6, rfl, hr6, hm6, G6⟩⟩
      have G6' := (Grow.new (x := tupO [.str (Str.ofString "REM") k1, .str (Str.ofString "") k2]) hr4 hT).trans G6
      have M6 := (M4.grow G6' 0 rfl hr6).wo nI
      have I6 := (I4.grow M4 rfl G6' 0 rfl hr6).wo (a := I9) (List.forall_mem_append.mpr ⟨fun p h => (G6'.n p h).2 _ hI4, off4⟩)
      have up6 : ∀ p ∈ im, p ∈ ([(tu, tupO [.int ln tl, .ref tT])] ++ [(tT, tupO [.str (Str.ofString "REM") k1, .str (Str.ofString "") k2])]) ++ (nw ++ im) := fun p h => List.mem_append_right _ (up4 p h)
      refine go_nil (C.nx _ _ (turnE T9 (fun p h => (mem_without.mp h).2) (.mk (its ++ [Value.ref tu]) n6 _ o2 _ (rows ++ [(ln, RK.leaf (Value.ref tT) (Lf.rem (Str.ofString "")))]) (putA pl ln rows.length) rs nf2 M6 I6 (fun p h => up6 p (h1 p h)) (hf.mono up6) ((RowsL.mono up6 hR).append (.cons (show RowAt _ ln (.ref tu) (.leaf (.ref tT) (.rem (Str.ofString ""))) from ⟨tu, tT, tl, k1, [.str (Str.ofString "") k2], rfl, .head _, .tail _ (.head _), rfl, ⟨k2, rfl⟩⟩) .nil)) hd2 tP2 hr (fun x hx => hOL x (.tail _ hx)) ?_ ?_ ?_ ?_) ?_))
      · simp only [List.length_append, List.length_singleton]; omega
      · omega
      · exact fun a b h => hC a b (.none (v := .ref tT) (by rw [← hlen]; exact hcomp) h)
      · intro a v k h
        rcases List.mem_append.mp h with h | h
        · exact hnx a v k h
        · cases List.mem_singleton.mp h
      · exact fun p h => (List.mem_cons.mp h).elim (fun e => e ▸ G6'.s _ hI4 fun (e : I9 = f.rows) => nI (e ▸ .head _)) fun h => (mem_without.mp h).1
    · have hv0 : vals.length ≠ 0 := by
        rw [hvl]
        exact fun h => hcomp (List.eq_nil_of_length_eq_zero h)
      refine go_skip (tst _ _ _ _ _ _ _ _ _ (beq_eq_false_iff_ne.mpr fun e => hv0 (by have := Int.ofNat.inj e; omega))) ?_
      refine turnE T9 (fun p h => (mem_without.mp h).2) (.mk (its ++ vals) n4 _ o2 _ (rows ++ (comp rows.length t).map (ln, ·)) (putA pl ln rows.length) rs nf2 (M4.wo nI) (I4.wo off4) (fun p h => up4 p (h1 p h)) (hf.mono up4) ?_ hd2 tP2 hr (fun x hx => hOL x (.tail _ hx)) ?_ ?_ ?_ ?_) fun p h => (List.mem_cons.mp h).elim (fun e => e ▸ hI4) fun h => (mem_without.mp h).1
      · rw [← hlen]
        exact (RowsL.mono up4 hR).append R4.toL
      · rw [← hlen, List.length_append, List.length_map]; omega
      · omega
      · exact fun a b h => hC a b (.some (by rw [← hlen]; exact hcomp) h)
      · intro a v k h
        rcases List.mem_append.mp h with h | h
        · exact hnx a v k h
        · obtain ⟨y, hy, e⟩ := List.mem_map.mp h
          cases e
          exact Nat.lt_of_le_of_lt (comp_nx (hOL _ (.head _)).1 hy) (by decide)
  · rintro m1 l1 ⟨its, n, im, oPl, kvPl, rows, pl, rs, nf, M, I, h1, hf, hR, hd1, tP, hL, hOL, hw9, hk, hC, hnx⟩
    cases hL
    have hlen := hR.length
    have hc := hC rows pl .nil
    have hz : rows.length < 299 := hw9
    have nd2 := List.nodup_cons.mp M.nd
    have nd3 := List.nodup_cons.mp nd2.2
    have I3 : Imm [f.data, f.pairs, f.loops, f.fns] ((f.rows, lstO its n) :: (f.places, oPl) :: im) l1 := ⟨List.forall_mem_cons.mpr ⟨⟨M.hm 0 _ _ rfl rfl, fun h => nd2.1 (.tail _ h)⟩, List.forall_mem_cons.mpr ⟨⟨M.hm 1 _ _ rfl rfl, nd3.1⟩, fun p h => ⟨I.sub p h, fun hm => (I.hi p h).2 (.tail _ (.tail _ hm))⟩⟩⟩⟩
    refine go_expr W (P := fun _ l' => ∃ W P H, GatS prog w f W P H ((f.rows, lstO its n) :: (f.places, oPl) :: im) (gfold 0 .zero rows) (fun _ => True) l') (ev_call W fact_gat fact_gat2 (C := fun as l' => as = [.ref f.o] ∧ l' = l1) (ar_cons (pu_name W nf) ?_) ?_) ?_
    · rintro _ _ ⟨rfl, rfl⟩
      exact ar_nil ⟨rfl, rfl⟩
    · rintro _ _ ⟨rfl, rfl⟩
      exact tr_gather W.toOk (hf.mono fun p h => .tail _ (.tail _ h)) (.head _) (RowsL.mono (fun p h => .tail _ (.tail _ h)) hR) (hlen ▸ Nat.lt_trans hz (by decide)) hiP hiL hsF loF hnx M.tail.tail I3 (dp_le hd50 (Nat.add_le_add_left (by decide) _))
    rintro _ l9 ⟨W1, P1, H1, ⟨vw, vf, vh, dv, nw, nh1, nh2, nd, oP1, oL1, oF1, im9, M9, I9, sb, G, _⟩⟩
    refine go_ret (pu_name W nf) ?_
    rintro _ _ ⟨rfl, rfl⟩
    rename_i l9
    have up := fun p h => I9.sub p (sb p h)
    have up1 : ∀ p ∈ im, p ∈ l9 := fun p h => up p (.tail _ (.tail _ h))
    exact hret _ _ _ (.mk (fun p h => up1 p (h1 p h)) (hf.mono up1) (up _ (.head _)) (RowsL.mono up1 hR) hc (Nat.lt_trans hz (by decide)) ⟨up _ (.tail _ (.head _)), hd1, loPl⟩ tP (M9.hm 3 _ _ rfl rfl) (M9.hm 4 _ _ rfl rfl) (M9.hm 5 _ _ rfl rfl) (M9.hm 6 _ _ rfl rfl) loP loL loF (G.mono I9.sub))
end
noncomputable def Seg (rows : List (Int × RK)) (n : Nat) (l : List (Int × RK)) : Prop := ∃ pre post, rows = pre ++ (l ++ post) ∧ pre.length = n
theorem Seg.left {rows : List (Int × RK)} {n : Nat} {a b : List (Int × RK)} (h : Seg rows n (a ++ b)) : Seg rows n a := let ⟨pre, post, e, hn⟩ := h; ⟨pre, b ++ post, by rw [e, List.append_assoc], hn⟩
theorem Seg.right {rows : List (Int × RK)} {n : Nat} {a b : List (Int × RK)} (h : Seg rows n (a ++ b)) : Seg rows (n + a.length) b := let ⟨pre, post, e, hn⟩ := h; ⟨pre ++ a, post, by rw [e]; simp only [List.append_assoc], by rw [List.length_append, hn]⟩
theorem Seg.head {rows : List (Int × RK)} {n : Nat} {x : Int × RK} {l : List (Int × RK)} (h : Seg rows n (x :: l)) : rows[n]? = some x := by
  obtain ⟨pre, post, rfl, rfl⟩ := h
  simp
theorem Seg.tail {rows : List (Int × RK)} {n : Nat} {x : Int × RK} {l : List (Int × RK)} (h : Seg rows n (x :: l)) : Seg rows (n + 1) l := Seg.right (a := [x]) h
section
variable {rows : List (Int × RK)} {ln : Int} {ans : Nat → Bool} {N : Nat}
theorem comp_goes : ∀ (t : T) (n k : Nat) (vs : List Value), OkT N t → Seg rows n ((comp n t).map (ln, ·)) → Goes rows ln ans N (n + (comp n t).length) k vs → ∃ k', k' ≤ k + (comp n t).length ∧ Goes rows ln ans N n k' (come ans t ++ vs)
  | .nil, n, k, vs, _, _, h => ⟨k, Nat.le_add_right _ _, h⟩
  | .leaf v l r, n, k, vs, ho, hs, h => by
    rw [comp] at hs h
    rw [List.map_cons] at hs
    rw [List.length_cons] at h
    obtain ⟨k1, e1, g1⟩ := comp_goes r (n + 1) k vs ho.2 hs.tail (by rw [show n + 1 + (comp (n + 1) r).length = n + ((comp (n + 1) r).length + 1) by omega]; exact h)
    refine ⟨k1 + 1, by rw [comp, List.length_cons]; omega, ?_⟩
    rw [come]
    exact .leaf hs.head g1
  | .ite v mk a b r, n, k, vs, ho, hs, h => by
    obtain ⟨hm, hoa, hob, hor⟩ := ho
    by_cases hb : b = .nil
    · subst hb
      rw [comp] at hs h ⊢
      rw [List.map_cons, List.map_append] at hs
      rw [List.length_cons, List.length_append] at h
      have s1 := hs.tail
      have sr := s1.right
      rw [List.length_map] at sr
      obtain ⟨kr, er, gr⟩ := comp_goes r (n + 1 + (comp (n + 1) a).length) k vs hor sr (by rw [show n + 1 + (comp (n + 1) a).length + (comp (n + 1 + (comp (n + 1) a).length) r).length = n + ((comp (n + 1) a).length + (comp (n + 1 + (comp (n + 1) a).length) r).length + 1) by omega]; exact h)
      obtain ⟨ka, ea, ga⟩ := comp_goes a (n + 1) kr (come ans r ++ vs) hoa s1.left gr
      rw [come]
      rw [List.length_cons, List.length_append]
      cases hx : ans mk with
      | true => exact ⟨ka + 1, by omega, .ifnot hs.head hm (by rw [hx, if_pos rfl, if_pos rfl, List.append_assoc]; exact ga)⟩
      | false => exact ⟨kr + 1, by omega, .ifnot hs.head hm (by rw [hx]; exact gr)⟩
    · rw [comp_ite hb] at hs h ⊢
      rw [List.map_cons, List.map_append, List.map_cons, List.map_append] at hs
      rw [List.length_cons, List.length_append, List.length_cons, List.length_append] at h
      have s1 := hs.tail
      have s2 := s1.right
      rw [List.length_map] at s2
      have s3 := s2.tail
      rw [show n + 1 + (comp (n + 1) a).length + 1 = n + 2 + (comp (n + 1) a).length by omega] at s3
      have sr := s3.right
      rw [List.length_map] at sr
      obtain ⟨kr, er, gr⟩ := comp_goes r (n + 2 + (comp (n + 1) a).length + (comp (n + 2 + (comp (n + 1) a).length) b).length) k vs hor sr (by
        rw [show n + 2 + (comp (n + 1) a).length + (comp (n + 2 + (comp (n + 1) a).length) b).length + (comp (n + 2 + (comp (n + 1) a).length + (comp (n + 2 + (comp (n + 1) a).length) b).length) r).length = n + ((comp (n + 1) a).length + ((comp (n + 2 + (comp (n + 1) a).length) b).length + (comp (n + 2 + (comp (n + 1) a).length + (comp (n + 2 + (comp (n + 1) a).length) b).length) r).length + 1) + 1) by omega]; exact h)
      obtain ⟨ka, ea, ga⟩ := comp_goes a (n + 1) (kr + 1) (come ans r ++ vs) hoa s1.left (.jump s2.head gr)
      obtain ⟨kb, eb, gb⟩ := comp_goes b (n + 2 + (comp (n + 1) a).length) kr (come ans r ++ vs) hob s3.left gr
      rw [come]
      rw [List.length_cons, List.length_append, List.length_cons, List.length_append]
      cases hx : ans mk with
      | true => exact ⟨ka + 1, by omega, .ifnot hs.head hm (by rw [hx, if_pos rfl, if_pos rfl, List.append_assoc]; exact ga)⟩
      | false => exact ⟨kb + 1, by omega, .ifnot hs.head hm (by rw [hx, if_neg Bool.false_ne_true, if_neg Bool.false_ne_true, List.append_assoc]; exact gb)⟩
end
section
variable {K α : Type} [DecidableEq K]
theorem atA_putA (l : List (K × α)) (k : K) (x : α) : atA (putA l k x) k = some x := by
  unfold putA atA
  split
  · rename_i h
    induction l with
    | nil => simp at h
    | cons y r ih =>
      simp only [List.map_cons, List.find?_cons]
      by_cases hy : y.1 = k
      · simp [hy]
      · simp only [List.any_cons, hy, decide_false, Bool.false_or] at h
        rw [if_neg hy]
        simp only [hy, decide_false]
        exact ih h
  · rename_i h
    have : l.find? (fun kv => decide (kv.1 = k)) = none := by
      rw [List.find?_eq_none]
      intro y hy hk
      exact h (List.any_eq_true.mpr ⟨y, hy, hk⟩)
    rw [List.find?_append, this]
    simp
theorem atA_putA_ne (l : List (K × α)) {k j : K} (x : α) (hj : j ≠ k) : atA (putA l k x) j = atA l j := by
  unfold putA atA
  split
  · rename_i h0
    clear h0
    induction l with
    | nil => rfl
    | cons y r ih =>
      simp only [List.map_cons, List.find?_cons]
      by_cases hy : y.1 = k
      · rw [if_pos hy]
        have h1 : decide (y.1 = j) = false := decide_eq_false (by rw [hy]; exact hj.symm)
        simp only [h1]
        exact ih
      · rw [if_neg hy]
        by_cases hj2 : y.1 = j
        · simp [hj2]
        · simp only [hj2, decide_false]
          exact ih
  · rw [List.find?_append]
    simp only [List.find?_cons, List.find?_nil, show decide (k = j) = false from decide_eq_false hj.symm]
    simp
end
theorem CompL.more {r0 r : List (Int × RK)} {p0 p : List (Int × Nat)} {ts : List (Int × T)} (h : CompL r0 p0 ts r p) : ∃ add, r = r0 ++ add ∧ ∀ x ∈ add, x.1 ∈ ts.map (·.1) := by
  induction h with
  | nil => exact ⟨[], (List.append_nil _).symm, fun _ h => nomatch h⟩
  | some _ _ ih =>
    rename_i rows pl ln t ts r p _ _
    obtain ⟨add, e, ha⟩ := ih
    refine ⟨(comp rows.length t).map (ln, ·) ++ add, by rw [e, List.append_assoc], fun x hx => ?_⟩
    rcases List.mem_append.mp hx with hx | hx
    · obtain ⟨y, _, rfl⟩ := List.mem_map.mp hx
      exact .head _
    · exact .tail _ (ha x hx)
  | none _ _ ih =>
    rename_i rows pl ln t ts r p v _ _
    obtain ⟨add, e, ha⟩ := ih
    refine ⟨[(ln, .leaf v (.rem (Str.ofString "")))] ++ add, by rw [e, List.append_assoc], fun x hx => ?_⟩
    rcases List.mem_append.mp hx with hx | hx
    · rw [List.mem_singleton.mp hx]
      exact .head _
    · exact .tail _ (ha x hx)
theorem CompL.place {r0 r : List (Int × RK)} {p0 p : List (Int × Nat)} {ts : List (Int × T)} (h : CompL r0 p0 ts r p) {k : Int} (hk : k ∉ ts.map (·.1)) : atA p k = atA p0 k := by
  induction h with
  | nil => rfl
  | some _ _ ih =>
    simp only [List.map_cons, List.mem_cons, not_or] at hk
    rw [ih hk.2, atA_putA_ne _ _ hk.1]
  | none _ _ ih =>
    simp only [List.map_cons, List.mem_cons, not_or] at hk
    rw [ih hk.2, atA_putA_ne _ _ hk.1]
theorem compL_find {r0 r : List (Int × RK)} {p0 p : List (Int × Nat)} {ts : List (Int × T)} (h : CompL r0 p0 ts r p) (hn : (ts.map (·.1)).Nodup) : ∀ x ∈ ts, ∃ n seg, atA p x.1 = some n ∧ Seg r n seg ∧ (∀ j y, r[j]? = some y → n + seg.length ≤ j → y.1 ≠ x.1) ∧ ((comp n x.2 ≠ [] ∧ seg = (comp n x.2).map (x.1, ·)) ∨ (comp n x.2 = [] ∧ ∃ v, seg = [(x.1, .leaf v (.rem (Str.ofString "")))])) := by
  have past : ∀ {r1 add : List (Int × RK)} {ln : Int} {ts : List (Int × T)}, (∀ x ∈ add, x.1 ∈ ts.map (·.1)) → ln ∉ ts.map (·.1) → ∀ j y, (r1 ++ add)[j]? = some y → r1.length ≤ j → y.1 ≠ ln := fun ha hl j y hy hj e => by
    rw [List.getElem?_append_right hj] at hy
    exact hl (e ▸ ha y (List.mem_of_getElem? hy))
  induction h with
  | nil => intro x hx; cases hx
  | some hc h ih =>
    rename_i rows pl ln t ts r p
    rw [List.map_cons, List.nodup_cons] at hn
    intro x hx
    rcases List.mem_cons.mp hx with rfl | hx
    · obtain ⟨add, e, ha⟩ := h.more
      refine ⟨rows.length, (comp rows.length t).map (ln, ·), by rw [h.place hn.1, atA_putA], ⟨rows, add, by rw [e, List.append_assoc], rfl⟩, ?_, .inl ⟨hc, rfl⟩⟩
      intro j y hy hj
      rw [e] at hy
      exact past ha hn.1 j y hy (by rw [List.length_append]; exact hj)
    · exact ih hn.2 x hx
  | none hc h ih =>
    rename_i rows pl ln t ts r p v
    rw [List.map_cons, List.nodup_cons] at hn
    intro x hx
    rcases List.mem_cons.mp hx with rfl | hx
    · obtain ⟨add, e, ha⟩ := h.more
      refine ⟨rows.length, [(ln, .leaf v (.rem (Str.ofString "")))], by rw [h.place hn.1, atA_putA], ⟨rows, add, by rw [e, List.append_assoc], rfl⟩, ?_, .inr ⟨hc, v, rfl⟩⟩
      intro j y hy hj
      rw [e] at hy
      exact past ha hn.1 j y hy (by rw [List.length_append]; exact hj)
    · exact ih hn.2 x hx
theorem gone_is {ts : List (Int × T)} {rows : List (Int × RK)} {pl : List (Int × Nat)} {ans : Nat → Bool} {N : Nat} (h : CompL [] [] ts rows pl) (hn : (ts.map (·.1)).Nodup) (hO : OkL N ts) {x : Int × T} (hx : x ∈ ts) :
    ∃ n k vs, atA pl x.1 = some n ∧ Goes rows x.1 ans N n k vs ∧ k ≤ rows.length ∧ (vs = come ans x.2 ∨ (x.2 = .nil ∧ ∃ v, vs = [v] ∧ (x.1, RK.leaf v (.rem (Str.ofString ""))) ∈ rows)) := by
  obtain ⟨n, seg, hp, hs, hout, hk⟩ := compL_find h hn x hx
  have hout' : Goes rows x.1 ans N (n + seg.length) 0 [] := by
    rcases Nat.lt_or_ge (n + seg.length) rows.length with hl | hl
    · have hy : rows[n + seg.length]? = some (rows[n + seg.length]'hl) := List.getElem?_eq_getElem hl
      exact .stop (ln := (rows[n + seg.length]'hl).1) (r := (rows[n + seg.length]'hl).2) hy (hout _ _ hy (Nat.le_refl _))
    · exact .out hl
  have hlen : seg.length ≤ rows.length := by
    obtain ⟨pre, post, e, _⟩ := hs
    rw [e]; simp only [List.length_append]; omega
  rcases hk with ⟨hc, rfl⟩ | ⟨hc, v, rfl⟩
  · rw [List.length_map] at hout' hlen
    obtain ⟨k, hk, g⟩ := comp_goes x.2 n 0 [] (hO x hx).1 hs hout'
    exact ⟨n, k, _, hp, g, by omega, .inl (List.append_nil _)⟩
  · refine ⟨n, 1, [v], hp, .leaf hs.head hout', hlen, .inr ⟨?_, v, rfl, List.mem_of_getElem? hs.head⟩⟩
    cases ht : x.2 with
    | nil => rfl
    | leaf v l r => rw [ht, comp] at hc; cases hc
    | ite v k a b r =>
      rw [ht] at hc
      by_cases hb : b = .nil
      · subst hb; rw [comp] at hc; cases hc
      · rw [comp_ite hb] at hc; cases hc
noncomputable def RK.isFor : RK → Bool
  | .leaf _ .forr => true
  | _ => false
noncomputable def RK.nextOf : RK → Option Nat
  | .leaf _ (.next k) => some k
  | _ => none
theorem word_for (r : RK) : (r.word == Str.ofString "FOR") = r.isFor := by
  cases r with
  | leaf v l => cases l <;> rfl
  | _ => rfl
theorem many_next (r : RK) : r.many = match r.nextOf with | some k => max 1 k | none => 0 := by
  cases r with
  | leaf v l => cases l <;> rfl
  | _ => rfl
theorem for_many (r : RK) (h : r.isFor = true) : r.many = 0 := by
  cases r with
  | leaf v l => cases l <;> first | rfl | cases h
  | _ => cases h
noncomputable def scanF : Int → Nat → List (Int × RK) → Option (Nat × Nat)
  | _, _, [] => none
  | d, far, r :: rs => if d ≤ r.2.many then some (far, (d - 1).toNat) else scanF (d + (if r.2.isFor then 1 else 0) - r.2.many) (far + 1) rs
theorem bin_stop {wd : Str} {at_ : Nat} : ∀ (rs : List (Int × RK)) (far : Nat) (s : BS), s.d ≤ 0 → bin wd at_ far s rs = s
  | [], _, _, _ => rfl
  | r :: rs, far, s, h => by
    have h1 : bone wd at_ far r.2 s = s := by
      unfold bone
      cases closeOf wd with
      | none => rfl
      | some cl => simp only [if_neg (show ¬ 0 < s.d by omega)]
    have h2 : btwo wd at_ far r.2 s = s := by unfold btwo; rw [if_neg (fun h' => absurd h'.2 (by omega))]
    rw [bin, h1, h2]
    exact bin_stop rs (far + 1) s h
theorem bin_for {at_ : Nat} : ∀ (rs : List (Int × RK)) (far : Nat) (d : Int) (ps : List (Int × Nat)) (ls : List (Int × (Nat × Nat))), 0 < d →
    (bin (Str.ofString "FOR") at_ far ⟨d, ps, ls⟩ rs).ps = ps ∧ (bin (Str.ofString "FOR") at_ far ⟨d, ps, ls⟩ rs).ls = match scanF d far rs with | some x => putA ls (at_ : Int) x | none => ls
  | [], _, _, _, _, _ => ⟨rfl, rfl⟩
  | r :: rs, far, d, ps, ls, hd => by
    have h1 : bone (Str.ofString "FOR") at_ far r.2 ⟨d, ps, ls⟩ = ⟨d, ps, ls⟩ := rfl
    have h2 : btwo (Str.ofString "FOR") at_ far r.2 ⟨d, ps, ls⟩ = bstepF at_ far r.2 ⟨d, ps, ls⟩ := by unfold btwo; rw [if_pos ⟨rfl, hd⟩]
    rw [bin, h1, h2]
    unfold bstepF scanF
    simp only [word_for]
    by_cases hm : d ≤ (r.2.many : Int)
    · simp only [if_pos hm]
      have hf : r.2.isFor = false := by
        cases hf : r.2.isFor with
        | false => rfl
        | true => have := for_many r.2 hf; omega
      rw [bin_stop _ _ _ (by simp only [hf]; simp; omega)]
      exact ⟨rfl, rfl⟩
    · simp only [if_neg hm]
      exact bin_for rs (far + 1) _ ps ls (by split <;> omega)
noncomputable def scanP (op cl : RK → Bool) : Int → Nat → List (Int × RK) → Option Nat
  | _, _, [] => none
  | d, far, r :: rs => if d + (if op r.2 then 1 else 0) - (if cl r.2 then 1 else 0) = 0 then some far else scanP op cl (d + (if op r.2 then 1 else 0) - (if cl r.2 then 1 else 0)) (far + 1) rs
theorem bin_pair {at_ : Nat} {wd cl : Str} (hc : closeOf wd = some cl) (hF : wd ≠ Str.ofString "FOR") : ∀ (rs : List (Int × RK)) (far : Nat) (d : Int) (ps : List (Int × Nat)) (ls : List (Int × (Nat × Nat))), 0 < d →
    (bin wd at_ far ⟨d, ps, ls⟩ rs).ls = ls ∧ (bin wd at_ far ⟨d, ps, ls⟩ rs).ps = match scanP (fun r => r.word == wd) (fun r => r.word == cl) d far rs with | some x => putA (putA ps (at_ : Int) x) (x : Int) at_ | none => ps
  | [], _, _, _, _, _ => ⟨rfl, rfl⟩
  | r :: rs, far, d, ps, ls, hd => by
    have h1 : bone wd at_ far r.2 ⟨d, ps, ls⟩ = bstepP wd cl at_ far r.2.word ⟨d, ps, ls⟩ := by unfold bone; rw [hc]; simp only [if_pos hd]
    have h2 : ∀ s, btwo wd at_ far r.2 s = s := fun s => by unfold btwo; rw [if_neg (fun h' => hF h'.1)]
    rw [bin, h1, h2]
    unfold bstepP scanP
    by_cases hz : d + (if r.2.word == wd then 1 else 0) - (if r.2.word == cl then 1 else 0) = 0
    · simp only [if_pos hz]
      rw [bin_stop _ _ _ (by simp only; omega)]
      exact ⟨rfl, rfl⟩
    · simp only [if_neg hz]
      exact bin_pair hc hF rs (far + 1) _ ps ls (by
        have : (if r.2.word == cl then (1 : Int) else 0) ≤ 1 := by split <;> decide
        have : 0 ≤ (if r.2.word == wd then (1 : Int) else 0) := by split <;> decide
        omega)
theorem bin_else {at_ : Nat} {wd : Str} (hc : closeOf wd = none) (hF : wd ≠ Str.ofString "FOR") : ∀ (rs : List (Int × RK)) (far : Nat) (s : BS), bin wd at_ far s rs = s
  | [], _, _ => rfl
  | r :: rs, far, s => by
    have h1 : bone wd at_ far r.2 s = s := by unfold bone; rw [hc]
    have h2 : btwo wd at_ far r.2 s = s := by unfold btwo; rw [if_neg (fun h' => hF h'.1)]
    rw [bin, h1, h2]
    exact bin_else hc hF rs (far + 1) s
noncomputable def LB : Nat → List (Int × RK) → List (Nat × (Nat × Nat))
  | _, [] => []
  | i, r :: rs => (if r.2.isFor then (scanF 1 (i + 1) rs).toList.map (fun x => (i, x)) else []) ++ LB (i + 1) rs
noncomputable def PB : Nat → List (Int × RK) → List (Nat × Nat)
  | _, [] => []
  | i, r :: rs => (match closeOf r.2.word with | some cl => (scanP (fun q => q.word == r.2.word) (fun q => q.word == cl) 1 (i + 1) rs).toList.map (fun x => (i, x)) | none => []) ++ PB (i + 1) rs
noncomputable def putL9 (l : List (Int × (Nat × Nat))) (x : Nat × (Nat × Nat)) : List (Int × (Nat × Nat)) := putA l (x.1 : Int) x.2
noncomputable def put2 (l : List (Int × Nat)) (x : Nat × Nat) : List (Int × Nat) := putA (putA l (x.1 : Int) x.2) (x.2 : Int) x.1
theorem bout_is : ∀ (rs : List (Int × RK)) (i : Nat) (p : List (Int × Nat) × List (Int × (Nat × Nat))), (bout i p rs).1 = (PB i rs).foldl put2 p.1 ∧ (bout i p rs).2 = (LB i rs).foldl putL9 p.2
  | [], _, _ => ⟨rfl, rfl⟩
  | r :: rs, i, p => by
    rw [bout, PB, LB, List.foldl_append, List.foldl_append]
    obtain ⟨e1, e2⟩ := bout_is rs (i + 1) ((bin r.2.word i (i + 1) ⟨1, p.1, p.2⟩ rs).ps, (bin r.2.word i (i + 1) ⟨1, p.1, p.2⟩ rs).ls)
    rw [e1, e2]
    have key : (bin r.2.word i (i + 1) ⟨1, p.1, p.2⟩ rs).ps = List.foldl put2 p.1 (match closeOf r.2.word with | some cl => (scanP (fun q => q.word == r.2.word) (fun q => q.word == cl) 1 (i + 1) rs).toList.map (fun x => (i, x)) | none => []) ∧
        (bin r.2.word i (i + 1) ⟨1, p.1, p.2⟩ rs).ls = List.foldl putL9 p.2 (if r.2.isFor then (scanF 1 (i + 1) rs).toList.map (fun x => (i, x)) else []) := by
      by_cases hf : r.2.word = Str.ofString "FOR"
      · have hif : r.2.isFor = true := by rw [← word_for, hf]; rfl
        rw [hf, hif]
        obtain ⟨h1, h2⟩ := bin_for (at_ := i) rs (i + 1) 1 p.1 p.2 (by decide)
        rw [h1, h2]
        refine ⟨rfl, ?_⟩
        cases scanF 1 (i + 1) rs <;> rfl
      · have hif : r.2.isFor = false := by rw [← word_for]; simpa using hf
        rw [hif]
        cases hc : closeOf r.2.word with
        | none => rw [bin_else hc hf]; exact ⟨rfl, rfl⟩
        | some cl =>
          obtain ⟨h1, h2⟩ := bin_pair (at_ := i) hc hf rs (i + 1) 1 p.1 p.2 (by decide)
          rw [h1, h2]
          refine ⟨?_, rfl⟩
          simp only
          cases scanP (fun q => q.word == r.2.word) (fun q => q.word == cl) 1 (i + 1) rs <;> rfl
    rw [key.1, key.2]
    exact ⟨rfl, rfl⟩
noncomputable def gL : Nat → List Nat → List (Int × RK) → List (Nat × (Nat × Nat))
  | _, _, [] => []
  | far, fs, r :: rs => if r.2.isFor then gL (far + 1) (far :: fs) rs else match r.2.nextOf with
    | some k => ((fs.take (max 1 k)).zipIdx).map (fun x => (x.1, (far, x.2))) ++ gL (far + 1) (fs.drop (max 1 k)) rs
    | none => gL (far + 1) fs rs
theorem endL_is (at_ : Nat) : ∀ (m wh : Nat) (fs : List Nat) (ls : List (Int × (Nat × Nat))), endL at_ m wh fs ls = (fs.drop m, (((fs.take m).zipIdx wh).map (fun x => (x.1, (at_, x.2)))).foldl putL9 ls)
  | 0, _, _, _ => rfl
  | m + 1, _, [], _ => rfl
  | m + 1, wh, f :: fs, ls => by
    rw [endL, endL_is at_ m (wh + 1) fs]
    rfl
theorem gstep_for {line : Int} {i : Nat} {g : GS} {r : RK} : (gstep line i g r).fors = (if r.isFor then i :: g.fors else match r.nextOf with | some k => g.fors.drop (max 1 k) | none => g.fors) ∧
    (gstep line i g r).loops = (match r.nextOf with | some k => (((g.fors.take (max 1 k)).zipIdx).map (fun x => (x.1, (i, x.2)))).foldl putL9 g.loops | none => g.loops) := by
  cases r with
  | leaf v l =>
    cases l with
    | next k =>
      refine ⟨?_, ?_⟩
      · show (endL i (max 1 k) 0 g.fors g.loops).1 = _
        rw [endL_is]; rfl
      · show (endL i (max 1 k) 0 g.fors g.loops).2 = _
        rw [endL_is]; rfl
    | _ => exact ⟨rfl, rfl⟩
  | _ => exact ⟨rfl, rfl⟩
theorem next_not_for {r : RK} {k : Nat} (h : r.nextOf = some k) : r.isFor = false := by
  cases r with
  | leaf v l => cases l <;> first | rfl | cases h
  | _ => rfl
theorem gfold_loops : ∀ (rs : List (Int × RK)) (i : Nat) (g : GS), (gfold i g rs).loops = (gL i g.fors rs).foldl putL9 g.loops
  | [], _, _ => rfl
  | r :: rs, i, g => by
    rw [gfold, gfold_loops rs (i + 1), gL]
    obtain ⟨e1, e2⟩ := gstep_for (line := r.1) (i := i) (g := g) (r := r.2)
    rw [e1, e2]
    cases hf : r.2.isFor with
    | true =>
      have hn : r.2.nextOf = none := by
        cases hn : r.2.nextOf with
        | none => rfl
        | some k => rw [next_not_for hn] at hf; cases hf
      rw [hn]; rfl
    | false =>
      cases hn : r.2.nextOf with
      | none => rfl
      | some k =>
        simp only [Bool.false_eq_true, if_false]
        rw [List.foldl_append]
theorem mem_gL : ∀ (rs : List (Int × RK)) (far : Nat) (fs : List Nat) (f : Nat) (x : Nat × Nat), (f, x) ∈ gL far fs rs ↔
    (∃ j : Nat, fs[j]? = some f ∧ scanF ((j : Int) + 1) far rs = some x) ∨ (∃ i r, rs[i]? = some r ∧ r.2.isFor = true ∧ f = far + i ∧ scanF 1 (far + i + 1) (rs.drop (i + 1)) = some x)
  | [], far, fs, f, x => by simp [gL, scanF]
  | r :: rs, far, fs, f, x => by
    have second : (∃ i q, (r :: rs)[i]? = some q ∧ q.2.isFor = true ∧ f = far + i ∧ scanF 1 (far + i + 1) ((r :: rs).drop (i + 1)) = some x) ↔
        ((r.2.isFor = true ∧ f = far ∧ scanF 1 (far + 1) rs = some x) ∨ ∃ i q, rs[i]? = some q ∧ q.2.isFor = true ∧ f = far + 1 + i ∧ scanF 1 (far + 1 + i + 1) (rs.drop (i + 1)) = some x) := by
      constructor
      · rintro ⟨i, q, h1, h2, h3, h4⟩
        cases i with
        | zero => cases h1; exact .inl ⟨h2, h3, h4⟩
        | succ i => exact .inr ⟨i, q, h1, h2, by omega, by rw [show far + 1 + i + 1 = far + (i + 1) + 1 by omega]; exact h4⟩
      · rintro (⟨h2, h3, h4⟩ | ⟨i, q, h1, h2, h3, h4⟩)
        · exact ⟨0, r, rfl, h2, h3, h4⟩
        · exact ⟨i + 1, q, h1, h2, by omega, by rw [show far + (i + 1) + 1 = far + 1 + i + 1 by omega]; exact h4⟩
    rw [second, gL]
    cases hf : r.2.isFor with
    | true =>
      rw [if_pos rfl, mem_gL rs (far + 1) (far :: fs)]
      have hm := for_many r.2 hf
      have sc : ∀ j : Nat, scanF ((j : Int) + 1) far (r :: rs) = scanF (((j + 1 : Nat) : Int) + 1) (far + 1) rs := fun j => by
        rw [scanF, hm, hf]
        rw [if_neg (by omega)]
        congr 1
      constructor
      · rintro (⟨j, h1, h2⟩ | h)
        · cases j with
          | zero => cases h1; exact .inr (.inl ⟨rfl, rfl, h2⟩)
          | succ j => exact .inl ⟨j, h1, by rw [sc]; exact h2⟩
        · exact .inr (.inr h)
      · rintro (⟨j, h1, h2⟩ | ⟨_, h2, h3⟩ | h)
        · exact .inl ⟨j + 1, h1, by rw [← sc]; exact h2⟩
        · exact .inl ⟨0, by rw [h2]; rfl, h3⟩
        · exact .inr h
    | false =>
      simp only [Bool.false_eq_true, if_false, false_and, false_or]
      have hm := many_next r.2
      cases hn : r.2.nextOf with
      | none =>
        rw [hn] at hm
        simp only at hm
        rw [mem_gL rs (far + 1) fs]
        have sc : ∀ j : Nat, scanF ((j : Int) + 1) far (r :: rs) = scanF ((j : Int) + 1) (far + 1) rs := fun j => by
          rw [scanF, hm, hf]
          rw [if_neg (by omega)]
          congr 1
        simp only [sc]
      | some k =>
        rw [hn] at hm
        simp only at hm
        have hk : 1 ≤ max 1 k := Nat.le_max_left _ _
        simp only
        generalize max 1 k = mm at hm hk ⊢
        rw [List.mem_append, mem_gL rs (far + 1) (fs.drop mm)]
        have sc1 : ∀ j : Nat, j < mm → scanF ((j : Int) + 1) far (r :: rs) = some (far, j) := fun j hj => by
          rw [scanF, hm]
          rw [if_pos (by omega)]
          congr 2
          omega
        have sc2 : ∀ j : Nat, scanF (((mm + j : Nat) : Int) + 1) far (r :: rs) = scanF ((j : Int) + 1) (far + 1) rs := fun j => by
          rw [scanF, hm, hf]
          rw [if_neg (by omega)]
          congr 1
          simp only [Bool.false_eq_true, if_false]; omega
        have first : (f, x) ∈ ((fs.take mm).zipIdx).map (fun x => (x.1, (far, x.2))) ↔ ∃ j : Nat, j < mm ∧ fs[j]? = some f ∧ x = (far, j) := by
          rw [List.mem_map]
          constructor
          · rintro ⟨⟨a, j⟩, h, e⟩
            cases e
            have := List.mem_zipIdx_iff_getElem?.mp h
            rw [List.getElem?_take] at this
            split at this
            · rename_i hj; exact ⟨j, hj, this, rfl⟩
            · cases this
          · rintro ⟨j, hj, h, rfl⟩
            exact ⟨(f, j), List.mem_zipIdx_iff_getElem?.mpr (by simp only; rw [List.getElem?_take, if_pos hj]; exact h), rfl⟩
        rw [first]
        constructor
        · rintro (⟨j, hj, h, rfl⟩ | ⟨j, h1, h2⟩ | h)
          · exact .inl ⟨j, h, sc1 j hj⟩
          · rw [List.getElem?_drop] at h1
            exact .inl ⟨mm + j, h1, by rw [sc2]; exact h2⟩
          · exact .inr h
        · rintro (⟨j, h1, h2⟩ | h)
          · rcases Nat.lt_or_ge j mm with hj | hj
            · rw [sc1 j hj] at h2
              cases h2
              exact .inl ⟨j, hj, h1, rfl⟩
            · obtain ⟨j', rfl⟩ : ∃ j', j = mm + j' := ⟨j - mm, by omega⟩
              rw [sc2] at h2
              exact .inr (.inl ⟨j', by rw [List.getElem?_drop]; exact h1, h2⟩)
          · exact .inr (.inr h)
theorem mem_LB : ∀ (rs : List (Int × RK)) (far : Nat) (f : Nat) (x : Nat × Nat), (f, x) ∈ LB far rs ↔ ∃ i r, rs[i]? = some r ∧ r.2.isFor = true ∧ f = far + i ∧ scanF 1 (far + i + 1) (rs.drop (i + 1)) = some x
  | [], _, _, _ => by simp [LB]
  | r :: rs, far, f, x => by
    rw [LB, List.mem_append, mem_LB rs (far + 1)]
    constructor
    · rintro (h | ⟨i, q, h1, h2, h3, h4⟩)
      · split at h
        · rename_i hf
          obtain ⟨y, hy, e⟩ := List.mem_map.mp h
          cases e
          exact ⟨0, r, rfl, hf, rfl, by simpa using hy⟩
        · cases h
      · exact ⟨i + 1, q, h1, h2, by omega, by rw [show far + (i + 1) + 1 = far + 1 + i + 1 by omega]; exact h4⟩
    · rintro ⟨i, q, h1, h2, h3, h4⟩
      cases i with
      | zero =>
        cases h1
        refine .inl ?_
        rw [if_pos h2]
        exact List.mem_map.mpr ⟨x, by simpa using h4, by rw [h3]; rfl⟩
      | succ i => exact .inr ⟨i, q, h1, h2, by omega, by rw [show far + 1 + i + 1 = far + (i + 1) + 1 by omega]; exact h4⟩
theorem LB_inc : ∀ (rs : List (Int × RK)) (i : Nat), (LB i rs).Pairwise (fun x y => x.1 < y.1) ∧ ∀ x ∈ LB i rs, i ≤ x.1
  | [], _ => ⟨.nil, fun _ h => nomatch h⟩
  | r :: rs, i => by
    obtain ⟨h1, h2⟩ := LB_inc rs (i + 1)
    rw [LB]
    have hd : ∀ x ∈ (if r.2.isFor then (scanF 1 (i + 1) rs).toList.map (fun x => (i, x)) else []), x.1 = i := by
      intro x hx
      split at hx
      · obtain ⟨y, _, rfl⟩ := List.mem_map.mp hx; rfl
      · cases hx
    refine ⟨List.pairwise_append.mpr ⟨?_, h1, fun x hx y hy => ?_⟩, fun x hx => ?_⟩
    · split
      · cases scanF 1 (i + 1) rs <;> simp
      · exact .nil
    · have := hd x hx; have := h2 y hy; omega
    · rcases List.mem_append.mp hx with hx | hx
      · exact Nat.le_of_eq (hd x hx).symm
      · have := h2 x hx; omega
theorem gL_nodup : ∀ (rs : List (Int × RK)) (far : Nat) (fs : List Nat), (gL far fs rs).Pairwise (fun x y => x.2.1 < y.2.1 ∨ x.2.2 < y.2.2) ∧ ∀ x ∈ gL far fs rs, far ≤ x.2.1
  | [], _, _ => ⟨.nil, fun _ h => nomatch h⟩
  | r :: rs, far, fs => by
    rw [gL]
    split
    · obtain ⟨h1, h2⟩ := gL_nodup rs (far + 1) (far :: fs)
      exact ⟨h1, fun x hx => by have := h2 x hx; omega⟩
    · split
      · rename_i k _
        obtain ⟨h1, h2⟩ := gL_nodup rs (far + 1) (fs.drop (max 1 k))
        refine ⟨List.pairwise_append.mpr ⟨?_, h1, fun x hx y hy => ?_⟩, fun x hx => ?_⟩
        · rw [List.pairwise_map]
          have hz : ∀ (l : List Nat) (n : Nat), (l.zipIdx n).Pairwise (fun a b => a.2 < b.2) ∧ ∀ a ∈ l.zipIdx n, n ≤ a.2 := by
            intro l
            induction l with
            | nil => exact fun n => ⟨.nil, fun _ h => nomatch h⟩
            | cons y l ih =>
              intro n
              obtain ⟨i1, i2⟩ := ih (n + 1)
              refine ⟨.cons (fun a ha => ?_) i1, fun a ha => ?_⟩
              · have := i2 a ha; simp only; omega
              · rcases List.mem_cons.mp ha with rfl | ha
                · exact Nat.le_refl _
                · have := i2 a ha; omega
          exact (hz _ 0).1.imp fun h => .inr h
        · obtain ⟨a, _, rfl⟩ := List.mem_map.mp hx
          have := h2 y hy
          exact .inl (by simp only; omega)
        · rcases List.mem_append.mp hx with hx | hx
          · obtain ⟨a, _, rfl⟩ := List.mem_map.mp hx
            exact Nat.le_refl _
          · have := h2 x hx; omega
      · obtain ⟨h1, h2⟩ := gL_nodup rs (far + 1) fs
        exact ⟨h1, fun x hx => by have := h2 x hx; omega⟩
theorem loops_perm (rows : List (Int × RK)) : (gL 0 [] rows).Perm (LB 0 rows) := by
  refine (List.perm_ext_iff_of_nodup ?_ ?_).mpr fun ⟨f, x⟩ => ?_
  · exact (gL_nodup rows 0 []).1.imp fun h e => by rw [e] at h; omega
  · exact (LB_inc rows 0).1.imp fun h e => by rw [e] at h; omega
  · rw [mem_gL, mem_LB]
    constructor
    · rintro (⟨j, h, _⟩ | h)
      · cases j <;> cases h
      · exact h
    · exact .inr
noncomputable abbrev wIs (x : Str) : RK → Bool := fun q => q.word == x
noncomputable def gPP : Nat → List Nat → List Nat → List (Int × RK) → List (Nat × Nat)
  | _, _, _, [] => []
  | far, ws, hs, r :: rs =>
    if wIs (Str.ofString "WHILE") r.2 then gPP (far + 1) (far :: ws) hs rs
    else if wIs (Str.ofString "DEFLINES") r.2 then gPP (far + 1) ws (far :: hs) rs
    else if wIs (Str.ofString "WEND") r.2 then match ws with
      | [] => gPP (far + 1) [] hs rs
      | b :: ws' => (b, far) :: gPP (far + 1) ws' hs rs
    else if wIs (Str.ofString "FNEND") r.2 then match hs with
      | [] => gPP (far + 1) ws [] rs
      | b :: hs' => (b, far) :: gPP (far + 1) ws hs' rs
    else gPP (far + 1) ws hs rs
theorem gfold_pairs : ∀ (rs : List (Int × RK)) (i : Nat) (g : GS), (gfold i g rs).pairs = (gPP i g.whiles g.heads rs).foldl put2 g.pairs
  | [], _, _ => rfl
  | r :: rs, i, g => by
    rw [gfold, gfold_pairs rs (i + 1)]
    obtain ⟨ln, k⟩ := r
    obtain ⟨ws, fs, hs, ps, ls, fn, da⟩ := g
    cases k with
    | leaf v l =>
      cases l with
      | wend => cases ws <;> rfl
      | fnend => cases hs <;> rfl
      | _ => rfl
    | _ => rfl
noncomputable def QP (op cl : RK → Bool) (far : Nat) (st : List Nat) (rs : List (Int × RK)) (b c : Nat) : Prop :=
  (∃ j : Nat, st[j]? = some b ∧ scanP op cl ((j : Int) + 1) far rs = some c) ∨ (∃ i r, rs[i]? = some r ∧ op r.2 = true ∧ b = far + i ∧ scanP op cl 1 (far + i + 1) (rs.drop (i + 1)) = some c)
section
variable {op cl : RK → Bool} {far b c b0 : Nat} {st : List Nat} {r : Int × RK} {rs : List (Int × RK)}
theorem qp_second : (∃ i q, (r :: rs)[i]? = some q ∧ op q.2 = true ∧ b = far + i ∧ scanP op cl 1 (far + i + 1) ((r :: rs).drop (i + 1)) = some c) ↔
    ((op r.2 = true ∧ b = far ∧ scanP op cl 1 (far + 1) rs = some c) ∨ ∃ i q, rs[i]? = some q ∧ op q.2 = true ∧ b = far + 1 + i ∧ scanP op cl 1 (far + 1 + i + 1) (rs.drop (i + 1)) = some c) := by
  constructor
  · rintro ⟨i, q, h1, h2, h3, h4⟩
    cases i with
    | zero => cases h1; exact .inl ⟨h2, h3, h4⟩
    | succ i => exact .inr ⟨i, q, h1, h2, by omega, by rw [show far + 1 + i + 1 = far + (i + 1) + 1 by omega]; exact h4⟩
  · rintro (⟨h2, h3, h4⟩ | ⟨i, q, h1, h2, h3, h4⟩)
    · exact ⟨0, r, rfl, h2, h3, h4⟩
    · exact ⟨i + 1, q, h1, h2, by omega, by rw [show far + (i + 1) + 1 = far + 1 + i + 1 by omega]; exact h4⟩
theorem qp_op (ho : op r.2 = true) (hc : cl r.2 = false) : QP op cl far st (r :: rs) b c ↔ QP op cl (far + 1) (far :: st) rs b c := by
  have sc : ∀ j : Nat, scanP op cl ((j : Int) + 1) far (r :: rs) = scanP op cl (((j + 1 : Nat) : Int) + 1) (far + 1) rs := fun j => by
    rw [scanP, ho, hc]
    simp only [if_true, Bool.false_eq_true, if_false]
    rw [if_neg (by omega)]
    congr 1
  unfold QP
  rw [qp_second]
  constructor
  · rintro (⟨j, h1, h2⟩ | ⟨_, h2, h3⟩ | h)
    · exact .inl ⟨j + 1, h1, by rw [← sc]; exact h2⟩
    · exact .inl ⟨0, by rw [h2]; rfl, h3⟩
    · exact .inr h
  · rintro (⟨j, h1, h2⟩ | h)
    · cases j with
      | zero => cases h1; exact .inr (.inl ⟨ho, rfl, h2⟩)
      | succ j => exact .inl ⟨j, h1, by rw [sc]; exact h2⟩
    · exact .inr (.inr h)
theorem qp_no (ho : op r.2 = false) (hc : cl r.2 = false) : QP op cl far st (r :: rs) b c ↔ QP op cl (far + 1) st rs b c := by
  have sc : ∀ j : Nat, scanP op cl ((j : Int) + 1) far (r :: rs) = scanP op cl ((j : Int) + 1) (far + 1) rs := fun j => by
    rw [scanP, ho, hc]
    simp only [Bool.false_eq_true, if_false]
    rw [if_neg (by omega)]
    congr 1
  unfold QP
  rw [qp_second]
  simp only [sc, ho, Bool.false_eq_true, false_and, false_or]
theorem qp_nil (ho : op r.2 = false) : QP op cl far [] (r :: rs) b c ↔ QP op cl (far + 1) [] rs b c := by
  unfold QP
  rw [qp_second]
  simp [ho]
theorem qp_cons (ho : op r.2 = false) (hc : cl r.2 = true) : QP op cl far (b0 :: st) (r :: rs) b c ↔ ((b = b0 ∧ c = far) ∨ QP op cl (far + 1) st rs b c) := by
  have s0 : scanP op cl (((0 : Nat) : Int) + 1) far (r :: rs) = some far := by
    rw [scanP, ho, hc]
    rfl
  have sc : ∀ j : Nat, scanP op cl (((j + 1 : Nat) : Int) + 1) far (r :: rs) = scanP op cl ((j : Int) + 1) (far + 1) rs := fun j => by
    rw [scanP, ho, hc]
    simp only [Bool.false_eq_true, if_false, if_true]
    rw [if_neg (by omega)]
    congr 1; omega
  unfold QP
  rw [qp_second]
  simp only [ho, Bool.false_eq_true, false_and, false_or]
  constructor
  · rintro (⟨j, h1, h2⟩ | h)
    · cases j with
      | zero => cases h1; rw [s0] at h2; cases h2; exact .inl ⟨rfl, rfl⟩
      | succ j => exact .inr (.inl ⟨j, h1, by rw [← sc]; exact h2⟩)
    · exact .inr (.inr h)
  · rintro (⟨rfl, rfl⟩ | ⟨j, h1, h2⟩ | h)
    · exact .inl ⟨0, rfl, s0⟩
    · exact .inl ⟨j + 1, h1, by rw [sc]; exact h2⟩
    · exact .inr h
end
theorem wIs_ne {x y : Str} {q : RK} (h : wIs x q = true) (hxy : x ≠ y) : wIs y q = false := by
  simp only [wIs, beq_iff_eq] at h
  simp only [wIs, h]
  simpa using hxy
theorem mem_gPP : ∀ (rs : List (Int × RK)) (far : Nat) (ws hs : List Nat) (b c : Nat), (b, c) ∈ gPP far ws hs rs ↔ QP (wIs (Str.ofString "WHILE")) (wIs (Str.ofString "WEND")) far ws rs b c ∨ QP (wIs (Str.ofString "DEFLINES")) (wIs (Str.ofString "FNEND")) far hs rs b c
  | [], _, _, _, _, _ => by simp [gPP, QP, scanP]
  | r :: rs, far, ws, hs, b, c => by
    rw [gPP.eq_def]
    dsimp only
    cases h1 : wIs (Str.ofString "WHILE") r.2 with
    | true =>
      rw [if_pos rfl, mem_gPP rs, qp_op h1 (wIs_ne h1 (by decide)), qp_no (wIs_ne h1 (by decide)) (wIs_ne h1 (by decide))]
    | false =>
      rw [if_neg Bool.false_ne_true]
      cases h2 : wIs (Str.ofString "DEFLINES") r.2 with
      | true => rw [if_pos rfl, mem_gPP rs, qp_op h2 (wIs_ne h2 (by decide)), qp_no h1 (wIs_ne h2 (by decide))]
      | false =>
        rw [if_neg Bool.false_ne_true]
        cases h3 : wIs (Str.ofString "WEND") r.2 with
        | true =>
          rw [if_pos rfl, qp_no h2 (wIs_ne h3 (by decide))]
          cases ws with
          | nil => simp only; rw [mem_gPP rs, qp_nil h1]
          | cons b0 ws => simp only; rw [List.mem_cons, mem_gPP rs, qp_cons h1 h3, Prod.mk.injEq, or_assoc]
        | false =>
          rw [if_neg Bool.false_ne_true, qp_no h1 h3]
          cases h4 : wIs (Str.ofString "FNEND") r.2 with
          | true =>
            rw [if_pos rfl]
            cases hs with
            | nil => simp only; rw [mem_gPP rs, qp_nil h2]
            | cons b0 hs =>
              simp only
              rw [List.mem_cons, mem_gPP rs, qp_cons h2 h4, Prod.mk.injEq]
              constructor
              · rintro (h | h | h)
                · exact .inr (.inl h)
                · exact .inl h
                · exact .inr (.inr h)
              · rintro (h | h | h)
                · exact .inr (.inl h)
                · exact .inl h
                · exact .inr (.inr h)
          | false => rw [if_neg Bool.false_ne_true, mem_gPP rs, qp_no h2 h4]
theorem close_iff {w cl : Str} : closeOf w = some cl ↔ (w = Str.ofString "WHILE" ∧ cl = Str.ofString "WEND") ∨ (w = Str.ofString "DEFLINES" ∧ cl = Str.ofString "FNEND") := by
  unfold closeOf
  by_cases h1 : w = Str.ofString "WHILE"
  · rw [if_pos h1]
    constructor
    · intro h; cases h; exact .inl ⟨h1, rfl⟩
    · rintro (⟨_, rfl⟩ | ⟨h, _⟩)
      · rfl
      · rw [h1] at h; exact absurd h (by decide)
  · rw [if_neg h1]
    by_cases h2 : w = Str.ofString "DEFLINES"
    · rw [if_pos h2]
      constructor
      · intro h; cases h; exact .inr ⟨h2, rfl⟩
      · rintro (⟨h, _⟩ | ⟨_, rfl⟩)
        · exact absurd h h1
        · rfl
    · rw [if_neg h2]
      constructor
      · intro h; cases h
      · rintro (⟨h, _⟩ | ⟨h, _⟩)
        · exact absurd h h1
        · exact absurd h h2
theorem mem_PB : ∀ (rs : List (Int × RK)) (far b c : Nat), (b, c) ∈ PB far rs ↔ ∃ i r cl, rs[i]? = some r ∧ closeOf r.2.word = some cl ∧ b = far + i ∧ scanP (fun q => q.word == r.2.word) (fun q => q.word == cl) 1 (far + i + 1) (rs.drop (i + 1)) = some c
  | [], _, _, _ => by simp [PB]
  | r :: rs, far, b, c => by
    rw [PB, List.mem_append, mem_PB rs (far + 1)]
    constructor
    · rintro (h | ⟨i, q, cl, h1, h2, h3, h4⟩)
      · cases hc : closeOf r.2.word with
        | none => rw [hc] at h; cases h
        | some cl =>
          rw [hc] at h
          obtain ⟨y, hy, e⟩ := List.mem_map.mp h
          cases e
          exact ⟨0, r, cl, rfl, hc, rfl, by simpa using hy⟩
      · exact ⟨i + 1, q, cl, h1, h2, by omega, by rw [show far + (i + 1) + 1 = far + 1 + i + 1 by omega]; exact h4⟩
    · rintro ⟨i, q, cl, h1, h2, h3, h4⟩
      cases i with
      | zero =>
        cases h1
        refine .inl ?_
        rw [h2]
        exact List.mem_map.mpr ⟨c, by simpa using h4, by rw [h3]; rfl⟩
      | succ i => exact .inr ⟨i, q, cl, h1, h2, by omega, by rw [show far + 1 + i + 1 = far + (i + 1) + 1 by omega]; exact h4⟩
theorem PB_inc : ∀ (rs : List (Int × RK)) (i : Nat), (PB i rs).Pairwise (fun x y => x.1 < y.1) ∧ ∀ x ∈ PB i rs, i ≤ x.1
  | [], _ => ⟨.nil, fun _ h => nomatch h⟩
  | r :: rs, i => by
    obtain ⟨h1, h2⟩ := PB_inc rs (i + 1)
    rw [PB]
    have wk : ∀ x ∈ PB (i + 1) rs, i ≤ x.1 := fun x hx => Nat.le_of_succ_le (h2 x hx)
    cases closeOf r.2.word with
    | none => exact ⟨h1, wk⟩
    | some cl =>
      dsimp only
      cases scanP (fun q => q.word == r.2.word) (fun q => q.word == cl) 1 (i + 1) rs with
      | none => exact ⟨h1, wk⟩
      | some y => exact ⟨.cons (fun x hx => h2 x hx) h1, List.forall_mem_cons.mpr ⟨Nat.le_refl _, wk⟩⟩
theorem gPP_inc : ∀ (rs : List (Int × RK)) (i : Nat) (ws hs : List Nat), (gPP i ws hs rs).Pairwise (fun x y => x.2 < y.2) ∧ ∀ x ∈ gPP i ws hs rs, i ≤ x.2
  | [], _, _, _ => ⟨.nil, fun _ h => nomatch h⟩
  | r :: rs, i, ws, hs => by
    have up : ∀ {l : List (Nat × Nat)}, (l.Pairwise (fun x y => x.2 < y.2) ∧ ∀ x ∈ l, i + 1 ≤ x.2) → l.Pairwise (fun x y => x.2 < y.2) ∧ ∀ x ∈ l, i ≤ x.2 := fun h => ⟨h.1, fun x hx => Nat.le_of_succ_le (h.2 x hx)⟩
    have con : ∀ {l : List (Nat × Nat)} {b : Nat}, (l.Pairwise (fun x y => x.2 < y.2) ∧ ∀ x ∈ l, i + 1 ≤ x.2) → ((b, i) :: l).Pairwise (fun x y => x.2 < y.2) ∧ ∀ x ∈ (b, i) :: l, i ≤ x.2 := fun h => ⟨.cons (fun x hx => h.2 x hx) h.1, List.forall_mem_cons.mpr ⟨Nat.le_refl _, fun x hx => Nat.le_of_succ_le (h.2 x hx)⟩⟩
    rw [gPP.eq_def]
    dsimp only
    split
    · exact up (gPP_inc rs ..)
    split
    · exact up (gPP_inc rs ..)
    split
    · split
      · exact up (gPP_inc rs ..)
      · exact con (gPP_inc rs ..)
    split
    · split
      · exact up (gPP_inc rs ..)
      · exact con (gPP_inc rs ..)
    · exact up (gPP_inc rs ..)
theorem pairs_perm (rows : List (Int × RK)) : (gPP 0 [] [] rows).Perm (PB 0 rows) := by
  refine (List.perm_ext_iff_of_nodup ?_ ?_).mpr fun ⟨b, c⟩ => ?_
  · exact (gPP_inc rows 0 [] []).1.imp fun h e => by rw [e] at h; omega
  · exact (PB_inc rows 0).1.imp fun h e => by rw [e] at h; omega
  · rw [mem_gPP, mem_PB]
    constructor
    · rintro ((⟨j, h, _⟩ | ⟨i, r, h1, h2, h3, h4⟩) | (⟨j, h, _⟩ | ⟨i, r, h1, h2, h3, h4⟩))
      · cases j <;> cases h
      · have hw : r.2.word = Str.ofString "WHILE" := by simpa [wIs] using h2
        exact ⟨i, r, _, h1, close_iff.mpr (.inl ⟨hw, rfl⟩), h3, by rw [hw]; exact h4⟩
      · cases j <;> cases h
      · have hw : r.2.word = Str.ofString "DEFLINES" := by simpa [wIs] using h2
        exact ⟨i, r, _, h1, close_iff.mpr (.inr ⟨hw, rfl⟩), h3, by rw [hw]; exact h4⟩
    · rintro ⟨i, r, cl, h1, h2, h3, h4⟩
      rcases close_iff.mp h2 with ⟨hw, rfl⟩ | ⟨hw, rfl⟩
      · rw [hw] at h4
        exact .inl (.inr ⟨i, r, h1, by simp [wIs, hw], h3, h4⟩)
      · rw [hw] at h4
        exact .inr (.inr ⟨i, r, h1, by simp [wIs, hw], h3, h4⟩)
theorem scanP_cl {op cl : RK → Bool} : ∀ (rs : List (Int × RK)) (far : Nat) (d : Int) (c : Nat), 0 < d → scanP op cl d far rs = some c → ∃ i r, rs[i]? = some r ∧ c = far + i ∧ cl r.2 = true
  | [], _, _, _, _, h => nomatch h
  | r :: rs, far, d, c, hd, h => by
    rw [scanP] at h
    have ha : 0 ≤ (if op r.2 then (1 : Int) else 0) := by split <;> decide
    cases hc : cl r.2 with
    | true =>
      rw [hc] at h
      simp only [if_true] at h
      by_cases hz : d + (if op r.2 then 1 else 0) - 1 = 0
      · rw [if_pos hz] at h
        cases h; exact ⟨0, r, rfl, rfl, hc⟩
      · rw [if_neg hz] at h
        obtain ⟨i, q, h1, h2, h3⟩ := scanP_cl rs (far + 1) _ c (by omega) h
        exact ⟨i + 1, q, h1, by omega, h3⟩
    | false =>
      rw [hc] at h
      simp only [Bool.false_eq_true, if_false] at h
      rw [if_neg (by omega)] at h
      obtain ⟨i, q, h1, h2, h3⟩ := scanP_cl rs (far + 1) _ c (by omega) h
      exact ⟨i + 1, q, h1, by omega, h3⟩
theorem PB_rows {rows : List (Int × RK)} {b c : Nat} (h : (b, c) ∈ PB 0 rows) : (∃ r cl, rows[b]? = some r ∧ closeOf r.2.word = some cl) ∧ ∃ r, rows[c]? = some r ∧ (r.2.word = Str.ofString "WEND" ∨ r.2.word = Str.ofString "FNEND") := by
  obtain ⟨i, r, cl, h1, h2, h3, h4⟩ := (mem_PB ..).mp h
  rw [Nat.zero_add] at h3 h4
  subst h3
  refine ⟨⟨r, cl, h1, h2⟩, ?_⟩
  obtain ⟨j, q, e1, e2, e3⟩ := scanP_cl _ _ _ _ (by decide) h4
  rw [List.getElem?_drop] at e1
  refine ⟨q, by rw [e2]; exact e1, ?_⟩
  have e4 : q.2.word = cl := by simpa using e3
  rcases close_iff.mp h2 with ⟨_, rfl⟩ | ⟨_, rfl⟩
  · exact .inl e4
  · exact .inr e4
section
variable {α : Type}
theorem mem_atA {K : Type} [DecidableEq K] {l : List (K × α)} (hn : (l.map (·.1)).Nodup) {k : K} {x : α} : (k, x) ∈ l ↔ atA l k = some x := by
  induction l with
  | nil => simp [atA]
  | cons y r ih =>
    rw [List.map_cons, List.nodup_cons] at hn
    unfold atA at ih ⊢
    rw [List.find?_cons, List.mem_cons]
    by_cases hy : y.1 = k
    · simp only [hy, decide_true, Option.map_some]
      constructor
      · rintro (rfl | h)
        · rfl
        · exact absurd (List.mem_map.mpr ⟨_, h, rfl⟩) (by rw [← hy]; exact hn.1)
      · intro h
        cases h
        exact .inl (by rw [← hy])
    · simp only [hy, decide_false]
      rw [ih hn.2]
      constructor
      · rintro (rfl | h)
        · exact absurd rfl hy
        · exact h
      · exact .inr
theorem putA_new {K : Type} [DecidableEq K] {l : List (K × α)} {k : K} {x : α} (h : k ∉ l.map (·.1)) : putA l k x = l ++ [(k, x)] := by
  unfold putA
  rw [if_neg]
  intro ha
  obtain ⟨y, hy, e⟩ := List.any_eq_true.mp ha
  exact h (List.mem_map.mpr ⟨y, hy, of_decide_eq_true e⟩)
end
theorem fold_loops : ∀ (L : List (Nat × (Nat × Nat))) (acc : List (Int × (Nat × Nat))), (L.map (·.1)).Nodup → (∀ x ∈ L, (x.1 : Int) ∉ acc.map (·.1)) → L.foldl putL9 acc = acc ++ L.map (fun x => ((x.1 : Int), x.2))
  | [], acc, _, _ => (List.append_nil _).symm
  | x :: L, acc, hn, hd => by
    rw [List.map_cons, List.nodup_cons] at hn
    rw [List.foldl_cons]
    have e : putL9 acc x = acc ++ [((x.1 : Int), x.2)] := putA_new (hd x (.head _))
    rw [e, fold_loops L _ hn.2 (fun y hy => ?_), List.append_assoc]
    · rfl
    · rw [List.map_append, List.mem_append]
      rintro (h | h)
      · exact hd y (.tail _ hy) h
      · have : (y.1 : Int) = (x.1 : Int) := by simpa using h
        exact hn.1 (List.mem_map.mpr ⟨y, hy, by omega⟩)
noncomputable def both (x : Nat × Nat) : List (Int × Nat) := [((x.1 : Int), x.2), ((x.2 : Int), x.1)]
theorem fold_pairs : ∀ (L : List (Nat × Nat)) (acc : List (Int × Nat)), (L.flatMap fun x => [x.1, x.2]).Nodup → (∀ x ∈ L, (x.1 : Int) ∉ acc.map (·.1) ∧ (x.2 : Int) ∉ acc.map (·.1)) → L.foldl put2 acc = acc ++ L.flatMap both
  | [], acc, _, _ => (List.append_nil _).symm
  | x :: L, acc, hn, hd => by
    rw [List.flatMap_cons] at hn
    simp only [List.cons_append, List.nil_append, List.nodup_cons, List.mem_cons, not_or] at hn
    obtain ⟨⟨n1, n2⟩, n3, n4⟩ := hn
    rw [List.foldl_cons]
    have e1 : putA acc (x.1 : Int) x.2 = acc ++ [((x.1 : Int), x.2)] := putA_new (hd x (.head _)).1
    have e2 : put2 acc x = acc ++ both x := by
      unfold put2
      rw [e1, putA_new, List.append_assoc]
      · rfl
      · rw [List.map_append, List.mem_append]
        rintro (h | h)
        · exact (hd x (.head _)).2 h
        · have : (x.2 : Int) = (x.1 : Int) := by simpa using h
          exact n1 (by omega)
    rw [e2, fold_pairs L _ n4 (fun y hy => ?_), List.append_assoc, List.flatMap_cons]
    have m1 : y.1 ∈ L.flatMap fun x => [x.1, x.2] := List.mem_flatMap.mpr ⟨y, hy, .head _⟩
    have m2 : y.2 ∈ L.flatMap fun x => [x.1, x.2] := List.mem_flatMap.mpr ⟨y, hy, .tail _ (.head _)⟩
    have key : ∀ z : Nat, z ∈ (L.flatMap fun x => [x.1, x.2]) → (z : Int) ∉ acc.map (·.1) → (z : Int) ∉ (acc ++ both x).map (·.1) := fun z hz ha h => by
      rw [List.map_append, List.mem_append] at h
      rcases h with h | h
      · exact ha h
      · have h' : (z : Int) = (x.1 : Int) ∨ (z : Int) = (x.2 : Int) := by simpa [both] using h
        rcases h' with h' | h'
        · exact n2 (by rw [show x.1 = z by omega]; exact hz)
        · exact n3 (by rw [show x.2 = z by omega]; exact hz)
    exact ⟨key _ m1 (hd y (.tail _ hy)).1, key _ m2 (hd y (.tail _ hy)).2⟩
structure SameMap {K α : Type} [DecidableEq K] (la lb : List (K × α)) : Prop where
  len : la.length = lb.length
  hit : ∀ k x, (k, x) ∈ la → atA lb k = some x
  eq : ∀ k, atA la k = atA lb k
theorem SameMap.of {K α : Type} [DecidableEq K] {la lb : List (K × α)} (hp : la.Perm lb) (hn : (lb.map (·.1)).Nodup) : SameMap la lb := by
  have hna : (la.map (·.1)).Nodup := (hp.map _).nodup_iff.mpr hn
  refine ⟨hp.length_eq, fun k x h => (mem_atA hn).mp (hp.mem_iff.mp h), fun k => ?_⟩
  cases h : atA la k with
  | some x => exact ((mem_atA hn).mp (hp.mem_iff.mp ((mem_atA hna).mpr h))).symm
  | none =>
    cases h2 : atA lb k with
    | none => rfl
    | some x => rw [(mem_atA hna).mp (hp.mem_iff.mpr ((mem_atA hn).mpr h2))] at h; cases h
theorem loops_same (rows : List (Int × RK)) : SameMap (gfold 0 .zero rows).loops (bout 0 ([], []) rows).2 := by
  have hp := loops_perm rows
  have nb : ((LB 0 rows).map (·.1)).Nodup := List.nodup_iff_pairwise_ne.mpr (List.pairwise_map.mpr ((LB_inc rows 0).1.imp fun h => Nat.ne_of_lt h))
  have na : ((gL 0 [] rows).map (·.1)).Nodup := (hp.map _).nodup_iff.mpr nb
  rw [gfold_loops, (bout_is rows 0 ([], [])).2]
  show SameMap ((gL 0 [] rows).foldl putL9 []) ((LB 0 rows).foldl putL9 [])
  rw [fold_loops _ _ na (fun _ _ => by simp), fold_loops _ _ nb (fun _ _ => by simp), List.nil_append, List.nil_append]
  refine SameMap.of (hp.map _) ?_
  rw [List.map_map]
  have : ((fun x : Int × (Nat × Nat) => x.1) ∘ fun x : Nat × (Nat × Nat) => ((x.1 : Int), x.2)) = (fun n : Nat => (n : Int)) ∘ fun x : Nat × (Nat × Nat) => x.1 := rfl
  rw [this, ← List.map_map]
  exact nb.map _ fun a b h e => h (by have e' : (a : Int) = (b : Int) := e; omega)
theorem pairs_same (rows : List (Int × RK)) : SameMap (gfold 0 .zero rows).pairs (bout 0 ([], []) rows).1 := by
  have hp := pairs_perm rows
  have nb : ((PB 0 rows).flatMap fun x => [x.1, x.2]).Nodup := by
    have nc : (PB 0 rows).Pairwise fun x y => x.2 ≠ y.2 := (hp.pairwise_iff (fun h => Ne.symm h)).mp ((gPP_inc rows 0 [] []).1.imp fun h => Nat.ne_of_lt h)
    have cross : ∀ x ∈ PB 0 rows, ∀ y ∈ PB 0 rows, x.1 ≠ y.2 := fun ⟨b, c⟩ hx ⟨b', c'⟩ hy e => by
      obtain ⟨⟨r, cl, h1, h2⟩, _⟩ := PB_rows hx
      obtain ⟨_, q, h3, h4⟩ := PB_rows hy
      have e' : b = c' := e
      rw [e', h3] at h1
      cases h1
      rcases h4 with h4 | h4 <;> rw [h4] at h2 <;> cases h2
    have main : ∀ L : List (Nat × Nat), (∀ x ∈ L, x ∈ PB 0 rows) → L.Pairwise (fun x y => x.1 < y.1) → L.Pairwise (fun x y => x.2 ≠ y.2) → (L.flatMap fun x => [x.1, x.2]).Nodup := by
      intro L
      induction L with
      | nil => intro _ _ _; exact .nil
      | cons x L ih =>
        intro hm p1 p2
        rw [List.pairwise_cons] at p1 p2
        have hin : ∀ z, z ∈ (L.flatMap fun x => [x.1, x.2]) → ∃ y ∈ L, z = y.1 ∨ z = y.2 := fun z hz => by
          obtain ⟨y, hy, h⟩ := List.mem_flatMap.mp hz
          refine ⟨y, hy, ?_⟩
          simpa using h
        rw [List.flatMap_cons]
        refine List.nodup_cons.mpr ⟨?_, List.nodup_cons.mpr ⟨?_, ih (fun y hy => hm y (.tail _ hy)) p1.2 p2.2⟩⟩
        · intro h
          rcases List.mem_cons.mp h with h | h
          · exact cross x (hm x (.head _)) x (hm x (.head _)) h
          · obtain ⟨y, hy, h | h⟩ := hin _ h
            · have := p1.1 y hy; omega
            · exact cross x (hm x (.head _)) y (hm y (.tail _ hy)) h
        · intro h
          obtain ⟨y, hy, h | h⟩ := hin _ h
          · exact cross y (hm y (.tail _ hy)) x (hm x (.head _)) h.symm
          · exact p2.1 y hy h
    exact main _ (fun _ h => h) (PB_inc rows 0).1 nc
  have na : ((gPP 0 [] [] rows).flatMap fun x => [x.1, x.2]).Nodup := (hp.flatMap_right _).nodup_iff.mpr nb
  rw [gfold_pairs, (bout_is rows 0 ([], [])).1]
  show SameMap ((gPP 0 [] [] rows).foldl put2 []) ((PB 0 rows).foldl put2 [])
  rw [fold_pairs _ _ na (fun _ _ => by simp), fold_pairs _ _ nb (fun _ _ => by simp), List.nil_append, List.nil_append]
  refine SameMap.of (hp.flatMap_right _) ?_
  have e : ((PB 0 rows).flatMap both).map (·.1) = ((PB 0 rows).flatMap fun x => [x.1, x.2]).map fun n : Nat => (n : Int) := by
    rw [List.map_flatMap, List.map_flatMap]
    rfl
  rw [e]
  exact nb.map _ fun a b h e => h (by have e' : (a : Int) = (b : Int) := e; omega)
noncomputable def dataL (rows : List (Int × RK)) : List (Int × Str) := rows.flatMap fun r => match r.2 with
  | .leaf _ (.data t) => [(r.1, t), (r.1, Str.ofString "b")]
  | _ => []
theorem gfold_data : ∀ (rs : List (Int × RK)) (i : Nat) (g : GS), (gfold i g rs).data = g.data ++ dataL rs
  | [], _, g => (List.append_nil _).symm
  | r :: rs, i, g => by
    rw [gfold, gfold_data rs (i + 1)]
    unfold dataL
    rw [List.flatMap_cons]
    obtain ⟨ln, k⟩ := r
    cases k with
    | leaf v l =>
      cases l with
      | data t => exact List.append_assoc ..
      | _ => rfl
    | _ => rfl
noncomputable def HL : Nat → List (Int × RK) → List (Str × Nat)
  | _, [] => []
  | i, r :: rs => (match r.2 with | .leaf _ (.deff n) => [(n, i)] | _ => []) ++ HL (i + 1) rs
noncomputable def fw (l : List (Str × Nat)) (x : Str × Nat) : List (Str × Nat) := if (atA l x.1).isSome then l else putA l x.1 x.2
theorem gfold_fns : ∀ (rs : List (Int × RK)) (i : Nat) (g : GS), (gfold i g rs).fns = (HL i rs).foldl fw g.fns
  | [], _, _ => rfl
  | r :: rs, i, g => by
    rw [gfold, gfold_fns rs (i + 1), HL, List.foldl_append]
    obtain ⟨ln, k⟩ := r
    cases k with
    | leaf v l => cases l <;> rfl
    | _ => rfl
section
variable {K α : Type} [DecidableEq K]
theorem atA_cons (x : K × α) (l : List (K × α)) (k : K) : atA (x :: l) k = if x.1 = k then some x.2 else atA l k := by
  unfold atA
  rw [List.find?_cons]
  by_cases h : x.1 = k <;> simp [h]
theorem keys_putA (l : List (K × α)) (k : K) (x : α) : (putA l k x).map (·.1) = if k ∈ l.map (·.1) then l.map (·.1) else l.map (·.1) ++ [k] := by
  by_cases h : k ∈ l.map (·.1)
  · rw [if_pos h]
    unfold putA
    obtain ⟨y, hy, e⟩ := List.mem_map.mp h
    rw [if_pos (List.any_eq_true.mpr ⟨y, hy, decide_eq_true e⟩), List.map_map]
    refine List.map_congr_left fun z _ => ?_
    show (if z.1 = k then (z.1, x) else z).1 = z.1
    split <;> rfl
  · rw [if_neg h, putA_new h, List.map_append]; rfl
theorem nodup_putA {l : List (K × α)} {k : K} {x : α} (h : (l.map (·.1)).Nodup) : ((putA l k x).map (·.1)).Nodup := by
  rw [keys_putA]
  split
  · exact h
  · rename_i hk
    refine List.nodup_append.mpr ⟨h, by simp, fun a ha b hb e => ?_⟩
    rw [List.mem_singleton.mp hb] at e
    exact hk (e ▸ ha)
noncomputable def pf (l : List (K × α)) (x : K × α) : List (K × α) := putA l x.1 x.2
theorem nodup_pf : ∀ (L : List (K × α)) (acc : List (K × α)), (acc.map (·.1)).Nodup → ((L.foldl pf acc).map (·.1)).Nodup
  | [], _, h => h
  | x :: L, acc, h => nodup_pf L _ (nodup_putA h)
theorem at_pf : ∀ (L : List (K × α)) (acc : List (K × α)) (k : K), atA (L.reverse.foldl pf acc) k = (atA L k).or (atA acc k)
  | [], _, _ => rfl
  | x :: L, acc, k => by
    rw [List.reverse_cons, List.foldl_append]
    show atA (putA (L.reverse.foldl pf acc) x.1 x.2) k = _
    rw [atA_cons]
    by_cases h : x.1 = k
    · subst h; rw [atA_putA, if_pos rfl]; rfl
    · rw [atA_putA_ne _ _ (Ne.symm h), if_neg h, at_pf L]
theorem SameMap.of_eq {la lb : List (K × α)} (ha : (la.map (·.1)).Nodup) (hb : (lb.map (·.1)).Nodup) (h : ∀ k, atA la k = atA lb k) : SameMap la lb := by
  have nd : ∀ {l : List (K × α)}, (l.map (·.1)).Nodup → l.Nodup := fun h => (List.pairwise_map.mp h).imp fun h e => h (by rw [e])
  exact SameMap.of ((List.perm_ext_iff_of_nodup (nd ha) (nd hb)).mpr fun ⟨k, x⟩ => by rw [mem_atA ha, mem_atA hb, h]) hb
end
theorem nodup_fw : ∀ (L acc : List (Str × Nat)), (acc.map (·.1)).Nodup → ((L.foldl fw acc).map (·.1)).Nodup
  | [], _, h => h
  | x :: L, acc, h => nodup_fw L _ (by
    unfold fw
    split
    · exact h
    · exact nodup_putA h)
theorem at_fw : ∀ (L acc : List (Str × Nat)) (k : Str), atA (L.foldl fw acc) k = (atA acc k).or (atA L k)
  | [], acc, k => by
    rw [List.foldl_nil]
    cases atA acc k <;> rfl
  | x :: L, acc, k => by
    rw [List.foldl_cons, at_fw L, atA_cons]
    unfold fw
    cases hs : atA acc x.1 with
    | some v =>
      rw [Option.isSome_some, if_pos rfl]
      by_cases h : x.1 = k
      · rw [← h, hs]; rfl
      · rw [if_neg h]
    | none =>
      rw [Option.isSome_none, if_neg Bool.false_ne_true]
      by_cases h : x.1 = k
      · subst h; rw [atA_putA, hs, if_pos rfl]; rfl
      · rw [atA_putA_ne _ _ (Ne.symm h), if_neg h]
theorem fns_same (rows : List (Int × RK)) : SameMap (gfold 0 .zero rows).fns ((HL 0 rows).reverse.foldl pf []) := by
  rw [gfold_fns]
  refine SameMap.of_eq (nodup_fw _ _ .nil) (nodup_pf _ _ .nil) fun k => ?_
  rw [at_fw, at_pf]
  show (none : Option Nat).or (atA (HL 0 rows) k) = (atA (HL 0 rows) k).or none
  cases atA (HL 0 rows) k <;> rfl
structure LawC {prog : Program} {w : World} (c : Wc prog w) : Prop where
  W : c.Okf lawScope
  cl : c.cl = [(Str.ofString "flat", c.L + 4), (Str.ofString "line", c.L + 3), (Str.ofString "at", c.L + 2), (Str.ofString "box", c.L + 1)]
  outer : c.outer = []
  XB : (Mine.K w.params).In c.base
  TB : Top c.p c.loose c.mean c.mg c.mb c.base
  hd : CodeHd c.h₀ 193 191
  ccd : c.ccd = .ref 193
  cn : c.cn = "law"
  dp : c.dp + 200 < recursionLimit
  un : c.un + 5000 < cLine
  PO : ProgOk prog
noncomputable abbrev CellIn (l : Led) (a : Addr) (v : Option Value) : Prop := ∃ o, (a, o) ∈ l ∧ o.data = .cell v
section
variable {prog : Program} {w : World} {c : Wc prog w} {m : Nm} {l l' : Led} {rest : List Stmt} {Q : Flow → Shared → Prop} {a9 : Addr} {o : Obj}
structure FunL (l : Led) : Prop where
  eq : ∀ p ∈ l, ∀ q ∈ l, p.1 = q.1 → p.2 = q.2
theorem At.funL {h : Heap} (H : At c m l h) : FunL l := ⟨fun p hp q hq e => by
  have a := (H.N p hp).1
  rw [e, (H.N q hq).1] at a
  exact (Option.some.inj a).symm⟩
theorem Go.fn {b : List Stmt} (h : FunL l → Go c Q m l b) : Go c Q m l b := .mk fun h0 tk E H => (h H.funL).run h0 tk E H
theorem Go.front {b : List Stmt} (hm : (a9, o) ∈ l) (h : Go c Q m ((a9, o) :: without a9 l) b) : Go c Q m l b := h.sub fun p hp => (List.mem_cons.mp hp).elim (fun e => e ▸ hm) fun hp => (mem_without.mp hp).1
theorem updF_front : UpdF a9 o ((a9, o) :: without a9 l) (fun o' => (a9, o') :: without a9 l) := .head fun _ hp => (mem_without.mp hp).2
theorem Tr.to {α : Type} {t : Sem α} {P P' : α → Led → Prop} (h : Tr c m l t P) (hs : ∀ v l', P v l' → ∃ l'', (∀ p ∈ l'', p ∈ l') ∧ P' v l'') : Tr c m l t P' := .mk fun h0 tk Q E H k => h.run h0 tk Q E H fun v l' h' tk' p H' =>
  let ⟨l'', s, p'⟩ := hs v l' p
  k v l'' h' tk' p' (at_sub H' s)
theorem go_assignC2 {sc : Scope} {e : Expr} {P : Value → Led → Prop} {x : Str} {pos pos' : Pos} (W : c.Okf sc) (h : Ev c m l e P) (k : ∀ v l', P v l' → ∃ ca o v0, c.cl.lookup x = some ca ∧ (ca, o) ∈ l' ∧ o.data = .cell v0 ∧ ∀ o', o'.data = .cell (some v) → Go c Q m ((ca, o') :: without ca l') rest) (hl : sc.names.lookup x = some .cell := by rfl)
    (hs : swapsWith e (some (.Name x pos')) pos.line (envX x sc 0 0 .none []) = pure false := by rfl) : Go c Q m l (.Assign [.Name x pos'] e pos :: rest) := by
  refine go_assignC W (P := fun v l'' => ∃ l' ca o v0, l'' = (ca, o) :: without ca l' ∧ c.cl.lookup x = some ca ∧ o.data = .cell v0 ∧ ∀ o', o'.data = .cell (some v) → Go c Q m ((ca, o') :: without ca l') rest) (h.to fun v l' p => ?_) (fun v l'' p => ?_) hl hs
  · obtain ⟨ca, o, v0, h1, h2, h3, h4⟩ := k v l' p
    exact ⟨(ca, o) :: without ca l', fun q hq => (List.mem_cons.mp hq).elim (fun e => e ▸ h2) fun hq => (mem_without.mp hq).1, l', ca, o, v0, rfl, h1, h3, h4⟩
  · obtain ⟨l', ca, o, v0, rfl, h1, h3, h4⟩ := p
    exact ⟨ca, o, v0, _, h1, updF_front, h3, h4⟩
inductive BoxN (l : Led) (ns : List Nat) (v : Value) (l' : Led) : Prop
  | mk (nu : Addr) (nv : List Value) (kn : Nat) (hv : v = .ref nu) (hn : (nu, lstO nv kn) ∈ l') (h2 : Two NatV nv ns) (hs : ∀ p ∈ l, p ∈ l') (off : ∀ p ∈ l, p.1 ≠ nu)
theorem box_ints {S : Addr} {its : Array Value} {xs : List Int} {scope : Scope} {p1 p2 p3 p4 p5 p6 p7 p8 p9 : Pos} (C : LawC c) (hs : ∀ l h, At c m l h → h.IsList S its) (hx : Two (fun v x => IntV x v) its.toList xs) (hz : its.size ≤ 63) (hm : m (Str.ofString "script") = some (.ref S))
    (hsc : scope = { kind := .function, names := [(Str.ofString ".0", .local), (Str.ofString "number", .local), (Str.ofString "abs", .globalImplicit)], isGenerator := false, isCoroutine := false }) :
    Ev c m l (.ListComp (.Call (.Name (Str.ofString "abs") p1) [.Name (Str.ofString "number") p2] [] p3) [⟨.Name (Str.ofString "number") p4, .Subscript (.Name (Str.ofString "script") p5) (.Slice none (some (.Constant (.int 8) 0 p6)) none p7) p8, [], 0⟩] scope p9) (BoxN l ((xs.take 8).map Int.natAbs)) := by
  subst hsc
  have W := C.W
  have hlen := hx.length
  refine Tr.mono (ev_comp (n := (its.toList.take 8).length) (J := fun i ys l1 => l1 = l ∧ Two NatV ys (((xs.take 8).map Int.natAbs).take i)) (cl := []) ?_ ?_ ?_ ?_ (src_listE (items := its.toList.take 8) (k9 := 0) (ev_sliceTo (pu_name W hm) pu_int (hs l) (by rw [sizeLine_eq]; omega) fun D2 h => ⟨D2, h, rfl, rfl⟩)) ?_ ?_ trivial ?_) ?_
  · rw [W.he]; exact rfl
  · decide
  · exact rfl
  · decide
  · rw [List.length_take]; omega
  · exact ⟨rfl, by simp; exact .nil⟩
  · rintro i v ex own l1 ys C' D hi ⟨rfl, hys⟩ _ ⟨rfl, hv⟩ offC offD apO ownD
    obtain ⟨hi8, hv'⟩ : i < 8 ∧ its.toList[i]? = some v := by
      rw [List.getElem?_take] at hv
      split at hv
      · exact ⟨by assumption, hv⟩
      · cases hv
    obtain ⟨v', x, hv1, hx9, t, rfl⟩ := two_get hx (i := i) (by rw [← hlen]; exact (List.getElem?_eq_some_iff.mp hv').1)
    rw [hv'] at hv1
    cases hv1
    refine ⟨fun m2 => m2 (Str.ofString "number") = some (.int x t), cas_name rfl rfl, ?_⟩
    rintro oC' m2 hN h2
    refine Tr.mono (ev_bcall1 (P := Is (IntV (x.natAbs : Int)) ((C', oC') :: (([] : Led) ++ (own ++ (D, lst9 ys) :: l1)))) (P1 := Is (Eqv (.int x t)) _) (pc_built W rfl fact_abs0 fact_abs) (pc_own W rfl (.head _) hN h2) ?_) ?_
    · rintro _ _ ⟨rfl, rfl⟩
      exact tr_abs
    · rintro y _ ⟨⟨t9, rfl⟩, rfl⟩
      refine ⟨_, fun p h => h, fun p h => ⟨offC p (List.mem_append_right _ (List.mem_append_right _ (.tail _ h))), offD p h⟩, apO, trivial, rfl, ?_⟩
      have e9 : ((xs.take 8).map Int.natAbs)[i]? = some x.natAbs := by rw [List.getElem?_map, List.getElem?_take_of_lt hi8, hx9]; rfl
      rw [List.take_add_one, e9]
      exact hys.append (.cons ⟨t9, rfl⟩ .nil)
  · rintro v l' ⟨D, ys, l1, rfl, rfl, ⟨rfl, hys⟩, off⟩
    refine .mk D ys _ rfl (.head _) ?_ (fun p h => .tail _ h) off
    rw [List.take_of_length_le (by rw [List.length_map, List.length_take, List.length_take]; omega)] at hys
    exact hys
inductive BoxS (l : Led) (ns : List Nat) (vs : List Value) (l' : Led) : Prop
  | mk (nu : Addr) (nv : List Value) (kn : Nat) (t1 t2 t3 : Tok) (hv : vs = [.ref nu, .int ((0 : Nat) : Int) t1, .int ((0 : Nat) : Int) t2, .int ((0 : Nat) : Int) t3]) (hn : (nu, lstO nv kn) ∈ l') (h2 : Two NatV nv ns) (hs : ∀ p ∈ l, p ∈ l') (off : ∀ p ∈ l, p.1 ≠ nu)
inductive BoxL (l : Led) (L : Addr) (ns : List Nat) (l' : Led) : Prop
  | mk (bx nu : Addr) (nv : List Value) (kn : Nat) (t1 t2 t3 : Tok) (hc : CellIn l' (L + 1) (some (.ref bx))) (hb : (bx, boxO nu 0 0 0 t1 t2 t3 0) ∈ l') (hn : (nu, lstO nv kn) ∈ l') (h2 : Two NatV nv ns) (hs : ∀ p ∈ l, p.1 ≠ L + 1 → p ∈ l')
theorem not_cell {o1 o2 : Obj} {a b : Addr} {v : Option Value} (F : FunL l) (h1 : (a, o1) ∈ l) (hd : o1.data = .cell v) (h2 : (b, o2) ∈ l) (hn : ∀ v, o2.data ≠ .cell v) : b ≠ a := fun e => hn v ((congrArg Obj.data (F.eq _ h2 _ h1 e)).trans hd)
set_option maxRecDepth 100000 in
theorem law_0 {S : Addr} {its : Array Value} {xs : List Int} {v0 : Option Value} (C : LawC c) (hs : ∀ l h, At c m l h → h.IsList S its) (hx : Two (fun v x => IntV x v) its.toList xs) (hz : its.size ≤ 63) (hm : m (Str.ofString "script") = some (.ref S))
    (hc : CellIn l (c.L + 1) v0) (k : ∀ l', BoxL l c.L ((xs.take 8).map Int.natAbs ++ [its.size + 5]) l' → Go c Q m l' rest) : Go c Q m l (lawSt0 :: rest) := by
  unfold lawSt0
  have W := C.W
  have hlen := hx.length
  obtain ⟨oc, hoc, hcd⟩ := hc
  refine go_assignC2 W (P := fun v l' => ∃ vs l2 D, BoxS l ((xs.take 8).map Int.natAbs ++ [its.size + 5]) vs l2 ∧ AllLt D l2 ∧ v = .ref D ∧ l' = (D, lstO vs 0) :: l2) (ev_list (P1 := BoxS l ((xs.take 8).map Int.natAbs ++ [its.size + 5])) (ar_cons (P1 := BoxN l ((xs.take 8).map Int.natAbs ++ [its.size + 5])) (ev_addL2 (P1 := BoxN l ((xs.take 8).map Int.natAbs)) (P2 := fun v1 v2 l2 => ∃ D2 t9 l1, BoxN l ((xs.take 8).map Int.natAbs) v1 l1 ∧ AllLt D2 l1 ∧ v2 = .ref D2 ∧ l2 = (D2, lstO [.int ((its.size + 5 : Nat) : Int) t9] 0) :: l1) (box_ints C hs hx hz hm rfl) ?_ ?_) ?_) ?_) ?_
  · intro v1 l1 hB
    refine ev_list (P1 := fun vs l' => ∃ t9, vs = [.int ((its.size + 5 : Nat) : Int) t9] ∧ l' = l1) (ar_cons (P1 := Is (IntV ((its.size + 5 : Nat) : Int)) l1) (Pu.as (pu_add (a := ((its.size : Nat) : Int)) (b := 5) (ev_bcall1 (P1 := Is (Eqv (.ref S)) l1) (pu_bname W fact_len0 fact_len) (pu_name W hm) ?_) pu_int) (by omega)) ?_) ?_
    · rintro _ _ ⟨rfl, rfl⟩
      exact tr_lenK (hs _) (by omega)
    · rintro _ _ ⟨⟨t9, rfl⟩, rfl⟩
      exact ar_nil ⟨t9, rfl, rfl⟩
    · rintro _ _ ⟨t9, rfl, rfl⟩
      exact ⟨Nat.le_of_ble_eq_true rfl, fun D hD => ⟨D, t9, _, hB, hD, rfl, rfl⟩⟩
  · rintro v1 v2 l2 ⟨D2, t9, l1, ⟨nu, nv, kn, rfl, hn, h2, hs1, off⟩, hD2, rfl, rfl⟩
    have hz9 := h2.length
    rw [List.length_map, List.length_take] at hz9
    refine ⟨nu, D2, nv, kn, _, 0, rfl, rfl, .tail _ hn, .head _, by simp only [List.length_cons, List.length_nil]; omega, fun D hD => ?_⟩
    exact .mk D _ 0 rfl (.head _) (h2.append (.cons ⟨t9, rfl⟩ .nil)) (fun p h => .tail _ (.tail _ (hs1 p h))) fun p h => Nat.ne_of_lt (allLt_iff.mp hD p (.tail _ (hs1 p h)))
  · rintro _ l1 ⟨nu, nv, kn, rfl, hn, h2, hs1, off⟩
    refine ar_cons (P1 := Is (IntV 0) _) pu_int ?_
    rintro _ _ ⟨⟨t1, rfl⟩, rfl⟩
    refine ar_cons (P1 := Is (IntV 0) _) pu_int ?_
    rintro _ _ ⟨⟨t2, rfl⟩, rfl⟩
    refine ar_cons (P1 := Is (IntV 0) _) pu_int ?_
    rintro _ _ ⟨⟨t3, rfl⟩, rfl⟩
    exact ar_nil (.mk nu nv kn t1 t2 t3 rfl hn h2 hs1 off)
  · rintro vs l1 hB
    have hB' := hB
    obtain ⟨nu, nv, kn, t1, t2, t3, rfl, hn, h2, hs1, off⟩ := hB'
    exact ⟨Nat.le_of_ble_eq_true rfl, fun D hD => ⟨_, _, D, hB, hD, rfl, rfl⟩⟩
  · rintro _ _ ⟨vs, l2, D, ⟨nu, nv, kn, t1, t2, t3, rfl, hn, h2, hs1, off⟩, hD, rfl, rfl⟩
    have lt9 := allLt_iff.mp hD
    have hcL := hs1 _ hoc
    have hDL : D ≠ c.L + 1 := fun e => Nat.lt_irrefl D (by have := lt9 _ hcL; rwa [← e] at this)
    refine ⟨c.L + 1, oc, v0, by rw [C.cl]; exact rfl, .tail _ hcL, hcd, fun o' ho' => k _ ?_⟩
    refine .mk D nu nv kn t1 t2 t3 ⟨o', .head _, ho'⟩ (.tail _ (mem_without.mpr ⟨.head _, hDL⟩)) (.tail _ (mem_without.mpr ⟨.tail _ hn, (off _ hoc).symm⟩)) h2 fun p hp hne => .tail _ (mem_without.mpr ⟨.tail _ (hs1 p hp), hne⟩)
end
inductive ParsJ (bx nu : Addr) (l0 : Led) (i : Nat) (ys : List Value) (l1 : Led) : Prop
  | mk (nw : Led) (b : B3) (ts : List (Int × T)) (hb : BoxIn l1 bx nu b) (g : Grow bx l0 nw l1) (le : Le3 ⟨0, 0, 0⟩ b (i * 73)) (hl : Two (LineAt nw) ys ts) (ho : OkL b.b ts) (hw : wgt ts ≤ i * 74) (hn : ts.map (·.1) = (List.range i).map fun k => ((10 * k + 5 : Nat) : Int))
theorem wgt_snoc (ts : List (Int × T)) (x : Int × T) : wgt (ts ++ [x]) = wgt ts + (x.2.size + 1) := by
  induction ts with
  | nil => simp [wgt]
  | cons y r ih => simp only [List.cons_append, wgt, ih]; omega
section
variable {prog : Program} {w : World} {c : Wc prog w} {sc : Scope} {m : Nm} {l l' : Led} {rest : List Stmt} {Q : Flow → Shared → Prop} {e1 e2 : Expr} {a b : Int} {pos : Pos}
theorem pu_mul (hm : IntMulOk a b) (h1 : Pu c m l e1 (IntV a)) (h2 : Pu c m l e2 (IntV b)) : Pu c m l (.BinOp e1 .Mult e2 pos) (IntV (a * b)) := pu_bin h1 h2 fun q => PyProof.Rows.mul_int (q _ _) hm
theorem Wc.Ok.wenv (W : c.Ok sc) (ev : Env) : (c.wenv ev).Ok sc := ⟨W.B, W.X, W.T, W.hs, W.hk⟩
set_option maxRecDepth 100000 in
theorem law_1 {bx nu : Addr} {nv : List Value} {ns : List Nat} {b0 kn n9 : Nat} {t1 t2 t3 : Tok} (C : LawC c) (hc : CellIn l (c.L + 1) (some (.ref bx))) (hb : (bx, boxO nu 0 0 0 t1 t2 t3 n9) ∈ l) (hn : (nu, lstO nv kn) ∈ l) (h2 : Two NatV nv ns) (hns : ns.length < 100) (h0 : ns[0]? = some b0)
    (k : ∀ pd ys kn k9 c1 c2 c3 n' u1 u2 u3 ts l', CellIn l' (c.L + 1) (some (.ref bx)) → (bx, boxO nu c1 c2 c3 u1 u2 u3 n') ∈ l' → (nu, lstO nv kn) ∈ l' → Two NatV nv ns → (pd, lstO ys k9) ∈ l' → Two (LineAt l') ys ts → OkL c2 ts → wgt ts ≤ (1 + b0 % 4) * 74 → ts.map (·.1) = ((List.range (1 + b0 % 4)).map fun k => ((10 * k + 5 : Nat) : Int)) → c2 ≤ (1 + b0 % 4) * 73 → (∀ p ∈ l, p.1 ≠ bx → p ∈ l') → Go c Q (upd m (Str.ofString "parsed") (.ref pd)) l' rest) : Go c Q m l (lawSt1 :: rest) := by
  unfold lawSt1
  have W := C.W
  obtain ⟨oc, hoc, hcd⟩ := hc
  refine Go.fn fun FL => ?_
  have hcb : (c.L + 1) ≠ bx := (not_cell FL hoc hcd hb fun v e => by cases e).symm
  have hnb : nu ≠ bx := fun e => by
    have e1 : lstO nv kn = boxO nu 0 0 0 t1 t2 t3 n9 := FL.eq _ hn _ hb e
    have e2 : nv.toArray.toList = _ := congrArg (fun o : Obj => match o.data with | .seq a _ => a.toList | _ => []) e1
    cases h2 with
    | nil => cases e2
    | cons hx _ =>
      obtain ⟨t, rfl⟩ := hx
      cases e2
  have cell : ∀ (l1 : Led), (c.L + 1, oc) ∈ l1 → Pu c m l1 (.Name (Str.ofString "box") ⟨162, 73, 162, 76⟩) (Eqv (.ref bx)) := fun l1 h => pu_cell W (by rw [C.cl]; exact rfl) h hcd
  obtain ⟨v0, hv0, t0, rfl⟩ := h2.atR h0
  refine go_comp W (n := 1 + b0 % 4) (J := ParsJ bx nu l) (cl := [(Str.ofString "box", c.L + 1)]) ?_ ?_ ?_ ?_ (src_range (n := 1 + b0 % 4) (a := 0) (ev_range1 (n := 1 + b0 % 4) (a := ((1 + b0 % 4 : Nat) : Int)) W (by omega) (Pu.as (pu_add (a := 1) (b := ((b0 % 4 : Nat) : Int)) pu_int (pu_md (i := b0) (j := 4) (by omega) (pi_item (n := kn) (a := 0) (vs := nv) (D := nu) hn (Int.le_refl _) hv0 (by omega) (pu_item (a := 0) (vs := [.ref nu, _, _, _]) hb (Int.le_refl _) rfl (by omega) (cell _ hoc) pu_int) pu_int) pu_int)) (by omega))) (Int.le_refl _) (by omega) (by omega)) (by omega) ?_ trivial ?_ ?_
  · rw [W.he, C.cl, W.hs]; exact rfl
  · decide
  · exact rfl
  · decide
  · exact .mk [] ⟨0, 0, 0⟩ [] ⟨_, _, _, _, hb⟩ ⟨fun p h _ => h, (fun _ h => nomatch h), ⟨_, hb⟩, ⟨_, hb⟩⟩ Le3.refl .nil (fun x h => nomatch h) (Nat.le_refl _) rfl
  · rintro i v ex own l1 ys C' D hi ⟨nw, b, ts, hb1, g, le, hl, ho, hw, hts⟩ _ ⟨rfl, ta, rfl⟩ offC offD apO ownD
    refine ⟨fun m2 => m2 (Str.ofString "at") = some (.int (0 + (i : Int)) ta), cas_name rfl rfl, ?_⟩
    rintro oC' m2 hN h2'
    obtain ⟨o1, hbo⟩ := g.h1
    have inB : ∀ p ∈ l1, p ∈ ([] : Led) ++ (own ++ (D, lst9 ys) :: l1) := fun p hp => List.mem_append_right _ (List.mem_append_right _ (.tail _ hp))
    have bC : C' ≠ bx := (offC _ (inB _ hbo)).symm
    have bD : D ≠ bx := (offD _ hbo).symm
    refine ev_tup (P1 := fun vs l' => ∃ t9 D2, vs = [.int ((10 * i + 5 : Nat) : Int) t9, .ref D2] ∧ StmP bx nu b 2 ((C', oC') :: (([] : Led) ++ (own ++ (D, lst9 ys) :: l1))) (.ref D2) l') ?_ ?_
    · refine ar_cons (P1 := Is (IntV ((10 * i + 5 : Nat) : Int)) _) (Pu.as (pu_add (a := 10 * (0 + (i : Int))) (b := 5) (pu_mul (a := 10) (b := 0 + (i : Int)) (.of_left (by decide)) pu_int (Pu.int (pc_own W rfl (.head _) hN h2'))) pu_int) (by omega)) ?_
      rintro _ _ ⟨⟨t9, rfl⟩, rfl⟩
      refine ar_cons (P1 := StmP bx nu b 2 ((C', oC') :: (([] : Led) ++ (own ++ (D, lst9 ys) :: l1)))) (ev_call' (C := fun vs l' => ∃ t2, vs = [.ref bx, .int ((2 : Nat) : Int) t2] ∧ l' = (C', oC') :: (([] : Led) ++ (own ++ (D, lst9 ys) :: l1))) (W.toOk.wenv _) (pc_glob W rfl fact_stm) fact_stm2 ?_ ?_) ?_
      · refine ar_cons (pc_cell W rfl rfl (.tail _ (inB _ (g.s _ hoc hcb))) hcd) ?_
        rintro _ _ ⟨rfl, rfl⟩
        refine ar_cons pu_int ?_
        rintro _ _ ⟨⟨t2, rfl⟩, rfl⟩
        exact ar_nil ⟨t2, rfl, rfl⟩
      · rintro _ _ ⟨t2, rfl, rfl⟩
        refine stm_call prog w 2 (nn := ns) (W.toOk.wenv _) (.tail _ (inB _ (g.s _ hn hnb))) hnb h2 (Nat.lt_of_le_of_lt (Nat.zero_le _) (List.getElem?_eq_some_iff.mp h0).1) hns (hb1.mono fun p h _ => .tail _ (inB p h)) ?_ ?_
        · exact Sm.step (K := 999) ⟨by decide, by decide, by decide⟩ le (by show i * 73 + 73 ≤ 999; omega)
        · exact Nat.lt_of_le_of_lt (m := c.dp + 200) (show c.dp + 20 + 20 * 2 ≤ _ by rw [Nat.add_assoc]; exact Nat.add_le_add_left (by decide) _) C.dp
      · rintro _ l' ⟨D2, vs9, k9, t, c9, nw9, rfl, h⟩
        exact ar_nil ⟨t9, D2, rfl, .mk D2 vs9 k9 t c9 nw9 rfl ‹_› ‹_› ‹_› ‹_› ‹_› ‹_› ‹_› ‹_›⟩
    · rintro _ l' ⟨t9, D2, rfl, ⟨D9, xs, k2, t, c9, nw9, e2, hb9, g9, hD2, hR, hO, hh, hsz, le9⟩⟩
      cases e2
      refine ⟨Nat.le_of_ble_eq_true rfl, fun D3 hD3 => ?_⟩
      have lt3 := allLt_iff.mp hD3
      obtain ⟨w1, w2, w3, n9', hbm9⟩ := hb9
      have up : ∀ p ∈ l1, p.1 ≠ D3 := fun p hp => Nat.ne_of_lt (by
        by_cases e : p.1 = bx
        · rw [e]; exact lt3 _ hbm9
        · exact lt3 _ (g9.s _ (.tail _ (inB p hp)) e))
      have g2 : Grow bx l1 ((D3, tupO [.int ((10 * i + 5 : Nat) : Int) t9, .ref D2]) :: nw9) ((D3, tupO [.int ((10 * i + 5 : Nat) : Int) t9, .ref D2]) :: (nw9 ++ put bx (boxO nu c9.a c9.b c9.c w1 w2 w3 n9') l1)) := ⟨fun p h n => .tail _ (List.mem_append_right _ (mem_put h n)), List.forall_mem_cons.mpr ⟨⟨.head _, fun x hx => (up x hx).symm⟩, fun p h => ⟨.tail _ (List.mem_append_left _ h), fun x hx => (g9.n p h).2 x (.tail _ (inB x hx))⟩⟩, g.h1, ⟨_, .tail _ (List.mem_append_right _ (.head _))⟩⟩
      have hO9 : ∀ q ∈ own, q.1 ≠ bx := fun q hq => apO q hq _ hbo
      refine ⟨_, ?_, ?_, ?_, trivial, .mk _ c9 (ts ++ [(((10 * i + 5 : Nat) : Int), t)]) ⟨w1, w2, w3, n9', .tail _ (List.mem_append_right _ (.head _))⟩ (g.trans g2) ((le.trans le9).mono (by rw [Nat.succ_mul]; exact Nat.le_refl _)) ((hl.mono fun v x h => h.mono fun p hp => List.mem_append_right _ hp).append (.cons ⟨D3, t9, D2, xs, k2, rfl, .head _, .tail _ (List.mem_append_left _ hD2), hR.mono fun p hp => .tail _ (List.mem_append_left _ hp)⟩ .nil)) ?_ ?_ ?_⟩
      · refine List.forall_mem_cons.mpr ⟨.tail _ (g9.s _ (.head _) bC), List.forall_mem_append.mpr ⟨fun p hp => .tail _ (g9.s _ (.tail _ (List.mem_append_right _ (List.mem_append_left _ hp))) (hO9 p hp)), List.forall_mem_cons.mpr ⟨.tail _ (g9.s _ (.tail _ (List.mem_append_right _ (List.mem_append_right _ (.head _)))) bD), List.forall_mem_cons.mpr ⟨.head _, List.forall_mem_append.mpr ⟨fun p hp => .tail _ (g9.n p hp).1, List.forall_mem_cons.mpr ⟨.tail _ hbm9, fun p hp => .tail _ (g9.s _ (.tail _ (inB p (mem_without.mp hp).1)) (mem_without.mp hp).2)⟩⟩⟩⟩⟩⟩
      · refine List.forall_mem_cons.mpr ⟨⟨(Nat.ne_of_lt (lt3 _ (g9.s _ (.head _) bC))).symm, (Nat.ne_of_lt (lt3 _ (g9.s _ (.tail _ (List.mem_append_right _ (List.mem_append_right _ (.head _)))) bD))).symm⟩, List.forall_mem_append.mpr ⟨fun p hp => ⟨(g9.n p hp).2 _ (.head _), (g9.n p hp).2 _ (.tail _ (List.mem_append_right _ (List.mem_append_right _ (.head _))))⟩, List.forall_mem_cons.mpr ⟨⟨bC.symm, bD.symm⟩, fun p hp => ⟨offC p (inB p (mem_without.mp hp).1), offD p (mem_without.mp hp).1⟩⟩⟩⟩
      · intro q hq
        refine List.forall_mem_cons.mpr ⟨Nat.ne_of_lt (lt3 _ (g9.s _ (.tail _ (List.mem_append_right _ (List.mem_append_left _ hq))) (hO9 q hq))), List.forall_mem_append.mpr ⟨fun p hp => ((g9.n p hp).2 _ (.tail _ (List.mem_append_right _ (List.mem_append_left _ hq)))).symm, List.forall_mem_cons.mpr ⟨hO9 q hq, fun p hp => apO q hq p (mem_without.mp hp).1⟩⟩⟩
      · exact List.forall_mem_append.mpr ⟨fun x hx => ⟨(ho x hx).1.mono le9.h2, (ho x hx).2⟩, List.forall_mem_singleton.mpr ⟨hO, hh⟩⟩
      · rw [wgt_snoc, Nat.succ_mul i 74]
        exact Nat.add_le_add hw (Nat.succ_le_succ hsz)
      · rw [List.map_append, hts, List.range_succ, List.map_append]
        rfl
  · rintro pd ys _ ⟨nw, b, ts, ⟨u1, u2, u3, n', hbm⟩, g, le, hl, ho, hw, hts⟩ offp
    exact k pd ys kn _ b.a b.b b.c n' u1 u2 u3 ts _ ⟨oc, .tail _ (g.s _ hoc hcb), hcd⟩ (.tail _ hbm) (.tail _ (g.s _ hn hnb)) h2 (.head _) (hl.mono fun v x h => h.mono fun p hp => .tail _ (g.n p hp).1) ho hw hts (Nat.le_trans le.h3 (Nat.le_of_eq (Nat.zero_add _))) fun p hp hne => .tail _ (g.s p hp hne)
end
noncomputable abbrev NC (o : Obj) : Prop := ∀ v, o.data ≠ .cell v
noncomputable abbrev SubN (l l' : Led) : Prop := ∀ p ∈ l, NC p.2 → p ∈ l'
noncomputable abbrev NF (o : Obj) : Prop := ∀ v, o.data ≠ .fields v
noncomputable abbrev Sub2 (l l' : Led) : Prop := ∀ p ∈ l, NC p.2 → NF p.2 → p ∈ l'
theorem SubN.two {l l' : Led} (h : SubN l l') : Sub2 l l' := fun p hp n _ => h p hp n
theorem nf_lst {vs : List Value} {n : Nat} : NF (lstO vs n) := fun _ h => nomatch h
theorem nf_tup {vs : List Value} : NF (tupO vs) := fun _ h => nomatch h
theorem nc_lst {vs : List Value} {n : Nat} : NC (lstO vs n) := fun _ h => nomatch h
theorem nc_tup {vs : List Value} : NC (tupO vs) := fun _ h => nomatch h
section
variable {prog : Program} {w : World} {imm imm' : Led}
theorem Lf.tl_nc {rest : List Value} {l : Lf} (hs : Sub2 imm imm') (h : l.tl imm rest) : l.tl imm' rest := by
  cases l <;> first
    | exact h
    | (obtain ⟨b, n, k2, k3, e, q⟩ := h; exact ⟨b, n, k2, k3, e, hs _ q nc_lst nf_lst⟩)
    | (obtain ⟨b, n, items, e, q, z⟩ := h; exact ⟨b, n, items, e, hs _ q nc_lst nf_lst, z⟩)
theorem LeafAt.nc {v : Value} {l : Lf} (hs : Sub2 imm imm') (h : LeafAt imm v l) : LeafAt imm' v l := by
  obtain ⟨a, k, rest, e, q, z⟩ := h
  exact ⟨a, k, rest, e, hs _ q nc_tup nf_tup, Lf.tl_nc hs z⟩
theorem RepT.nc {vs : List Value} {t : T} (hs : Sub2 imm imm') (h : RepT imm vs t) : RepT imm' vs t := by
  induction h with
  | nil => exact .nil
  | leaf h _ ih => exact .leaf (h.nc hs) ih
  | ite a b c d _ _ _ i1 i2 i3 => exact .ite (hs _ a nc_tup nf_tup) (hs _ b nc_tup nf_tup) (hs _ c nc_lst nf_lst) (hs _ d nc_lst nf_lst) i1 i2 i3
theorem LineAt.nc {v : Value} {x : Int × T} (hs : Sub2 imm imm') (h : LineAt imm v x) : LineAt imm' v x := let ⟨b, t, q, xs, nq, e, h1, h2, h3⟩ := h; ⟨b, t, q, xs, nq, e, hs _ h1 nc_tup nf_tup, hs _ h2 nc_lst nf_lst, h3.nc hs⟩
theorem RowAt.nc {line : Int} {v : Value} {r : RK} (hs : Sub2 imm imm') (h : RowAt imm line v r) : RowAt imm' line v r := by
  obtain ⟨b, a, t, k, rest, e, q, z, y⟩ := h
  refine ⟨b, a, t, k, rest, e, hs _ q nc_tup nf_tup, hs _ z nc_tup nf_tup, ?_⟩
  cases r with
  | leaf v' l => exact ⟨y.1, Lf.tl_nc hs y.2⟩
  | ifnot mk tg => obtain ⟨q, k1, k2, k3, e, z⟩ := y; exact ⟨q, k1, k2, k3, e, hs _ z nc_tup nf_tup⟩
  | jump tg => exact y
theorem nc_dict {K : Type} [DecidableEq K] {knd : KeyKind prog w K} {o : Obj} {kvs : List (K × Value)} (h : o.IsDictOf knd kvs) : NC o := fun v e => by
  obtain ⟨es, ep, _, h2, _⟩ := h
  rw [h2] at e
  cases e
theorem nf_dict {K : Type} [DecidableEq K] {knd : KeyKind prog w K} {o : Obj} {kvs : List (K × Value)} (h : o.IsDictOf knd kvs) : NF o := fun v e => by
  obtain ⟨es, ep, _, h2, _⟩ := h
  rw [h2] at e
  cases e
theorem RowsL.nc {vs : List Value} {rs : List (Int × RK)} (hs : Sub2 imm imm') (h : RowsL imm vs rs) : RowsL imm' vs rs := Two.mono (fun _ _ h => RowAt.nc hs h) h
theorem DictIn.nc {D : Addr} {o : Obj} {kvs : List (Int × Value)} (h : DictIn prog w imm D o kvs) (hs : Sub2 imm imm') : DictIn prog w imm' D o kvs := ⟨hs _ h.hm (nc_dict h.hd) (nf_dict h.hd), h.hd, h.lo⟩
theorem FlatIn.nc {P : Params} {f : FA} (h : FlatIn P f imm) (hs : Sub2 imm imm') : FlatIn P f imm' := ⟨hs _ h.o (fun _ h => nomatch h) (fun _ h => nomatch h), hs _ h.d (fun _ h => nomatch h) (fun _ h => nomatch h)⟩
theorem PairV.nc {v : Value} {x : Nat × Nat} (hs : Sub2 imm imm') (h : PairV imm v x) : PairV imm' v x := let ⟨tu, t1, t2, e, m⟩ := h; ⟨tu, t1, t2, e, hs _ m nc_tup nf_tup⟩
theorem DataV.nc {v : Value} {x : Int × Str} (hs : Sub2 imm imm') (h : DataV imm v x) : DataV imm' v x := let ⟨tu, t1, k, e, m⟩ := h; ⟨tu, t1, k, e, hs _ m nc_tup nf_tup⟩
theorem GRep.nc {g : GS} {vw vf vh dv : List Value} {oP oL oF : Obj} (h : GRep prog w imm g vw vf vh dv oP oL oF) (hs : Sub2 imm imm') : GRep prog w imm' g vw vf vh dv oP oL oF :=
  ⟨h.wh, h.fo, h.he, h.pa, let ⟨kvs, a, b⟩ := h.lo; ⟨kvs, a, b.mono fun _ _ h => ⟨h.1, PairV.nc hs h.2⟩⟩, h.fn, h.da.mono fun _ _ h => DataV.nc hs h⟩
theorem AnsIn.nc {an : Addr} {ans : Nat → Bool} {N : Nat} (h : AnsIn imm an ans N) (hs : Sub2 imm imm') : AnsIn imm' an ans N := let ⟨av, n, a, b, c, d⟩ := h; ⟨av, n, hs _ a nc_lst nf_lst, b, c, d⟩
end
theorem fact_flatten : ∀ P, nsIn (Mine.K P) mainGlobals (Str.ofString "flatten") = some (some (.ref 107)) := fun P => by k_is
theorem fact_flatten2 : ∀ P, keepIn (Mine.K P) (.ref 107) = true := fun P => by k_is
section
variable {prog : Program} {w : World} {c : Wc prog w} {m : Nm} {l l' : Led} {rest : List Stmt} {Q : Flow → Shared → Prop}
theorem FlatAt.nc {ts : List (Int × T)} {v : Value} (h : FlatAt prog w ts l v l') {l2 : Led} (hs : Sub2 l' l2) : FlatAt prog w ts [] v l2 := by
  obtain ⟨_, a1, a2, a3, a4, a5, a6, a7, a8, a9, b1, b2, b3, b4, b5, G⟩ := h
  exact .mk (fun p h => nomatch h) (a1.nc hs) (hs _ a2 nc_lst nf_lst) (a3.nc hs) a4 a5 (a6.nc hs) a7 (hs _ a8 nc_lst nf_lst) (hs _ a9 (let ⟨_, h, _⟩ := G.pa; nc_dict h) (let ⟨_, h, _⟩ := G.pa; nf_dict h)) (hs _ b1 (let ⟨_, h, _⟩ := G.lo; nc_dict h) (let ⟨_, h, _⟩ := G.lo; nf_dict h)) (hs _ b2 (let ⟨_, h, _⟩ := G.fn; nc_dict h) (let ⟨_, h, _⟩ := G.fn; nf_dict h)) b3 b4 b5 (G.nc hs)
theorem sub_cell {a : Addr} {o o' : Obj} {v : Option Value} (F : FunL l) (hm : (a, o) ∈ l) (hd : o.data = .cell v) : SubN l ((a, o') :: without a l) := fun p hp hn => .tail _ (mem_without.mpr ⟨hp, not_cell F hm hd hp hn⟩)
set_option maxRecDepth 100000 in
theorem law_2 {pd : Addr} {ys : List Value} {k9 N : Nat} {ts : List (Int × T)} {v4 : Option Value} (C : LawC c) (hm : m (Str.ofString "parsed") = some (.ref pd)) (hp : (pd, lstO ys k9) ∈ l) (hl : Two (LineAt l) ys ts) (hO : OkL N ts) (hw : wgt ts < 299) (hc : CellIn l (c.L + 4) v4)
    (k : ∀ fo l', CellIn l' (c.L + 4) (some (.ref fo)) → (∀ p ∈ l, p.1 ≠ c.L + 4 → p ∈ l') → FlatAt prog w ts [] (.ref fo) l' → Go c Q m l' rest) : Go c Q m l (lawSt2 :: rest) := by
  unfold lawSt2
  have W := C.W
  obtain ⟨oc, hoc, hcd⟩ := hc
  have h1 := C.dp
  have h2 := C.un
  refine go_assignC2 W (ev_call W fact_flatten fact_flatten2 (C := fun vs l' => vs = [.ref pd] ∧ l' = l) (P := fun v l' => FlatAt prog w ts l v l' ∧ FunL l') (ar_cons (pu_name W hm) ?_) ?_) ?_
  · rintro _ _ ⟨rfl, rfl⟩
    exact ar_nil ⟨rfl, rfl⟩
  · rintro _ _ ⟨rfl, rfl⟩
    exact .mk fun h0 tk Q E H kk => (flatten_call W.toOk hp hl hO hw (by omega)).run h0 tk Q E H fun v l' h' tk' p H' => kk v l' h' tk' ⟨p, H'.funL⟩ H'
  · rintro v l' ⟨h, FL⟩
    have hh := h
    obtain ⟨hs, a1, a2, a3, a4, a5, a6, a7, a8, a9, b1, b2, b3, b4, b5, G⟩ := hh
    refine ⟨c.L + 4, oc, v4, by rw [C.cl]; exact rfl, hs _ hoc, hcd, fun o' ho' => k _ _ ⟨o', .head _, ho'⟩ (fun p hp hne => .tail _ (mem_without.mpr ⟨hs p hp, hne⟩)) (h.nc (SubN.two (sub_cell FL (hs _ hoc) hcd)))⟩
theorem pu_cmpI {e1 e2 : Expr} {a b : Int} {op : CmpOp} {bb : Bool} {pos : Pos} (hc : cmpI op a b = some bb) (h1 : Pu c m l e1 (IntV a)) (h2 : Pu c m l e2 (IntV b)) (hb : behindInMarks op e2 = false := by rfl) : Pu c m l (.Compare e1 [op] [e2] pos) (Eqv (.bool bb)) := pu_cmp h1 h2 (fun r1 r2 H q => cmpI_wp hc r1 r2 H q) hb
noncomputable def ansF (ns : List Nat) (j : Nat) : Bool := (((ns.getD (j % ns.length) 0 / (2 + j) % 2 : Nat) : Int) == 1)
set_option maxRecDepth 100000 in
theorem law_3 {bx nu : Addr} {nv : List Value} {ns : List Nat} {kn c1 c2 c3 n' : Nat} {u1 u2 u3 : Tok} (C : LawC c) (hc : CellIn l (c.L + 1) (some (.ref bx))) (hb : (bx, boxO nu c1 c2 c3 u1 u2 u3 n') ∈ l) (hn : (nu, lstO nv kn) ∈ l) (h2 : Two NatV nv ns) (hns : ns.length < 100) (h0 : 0 < ns.length) (hc2 : c2 < 10000)
    (k : ∀ an, (∀ p ∈ l, p.1 ≠ an) → ∀ k9, Go c Q (upd m (Str.ofString "answers") (.ref an)) ((an, lstO ((List.range (c2 + 1)).map fun j => .bool (ansF ns j)) k9) :: l) rest) : Go c Q m l (lawSt3 :: rest) := by
  unfold lawSt3
  have W := C.W
  obtain ⟨oc, hoc, hcd⟩ := hc
  have hnl := h2.length
  refine go_comp W (n := c2 + 1) (J := fun i ys l1 => l1 = l ∧ ys = (List.range i).map fun j => .bool (ansF ns j)) (cl := [(Str.ofString "box", c.L + 1)]) ?_ ?_ ?_ ?_ (src_range (n := c2 + 1) (a := 0) (ev_range1 (n := c2 + 1) (a := ((c2 + 1 : Nat) : Int)) W (by omega) (Pu.as (pu_add (a := (c2 : Int)) (b := 1) (pi_item (a := 2) (vs := [_, _, .int (c2 : Int) u2, _]) hb (by omega) rfl (by omega) (pu_cell W (by rw [C.cl]; exact rfl) hoc hcd) pu_int) pu_int) (by omega))) (Int.le_refl _) (by omega) (by omega)) (by omega) ⟨rfl, rfl⟩ trivial ?_ ?_
  · rw [W.he, C.cl, W.hs]; exact rfl
  · decide
  · exact rfl
  · decide
  · rintro i v ex own l1 ys C' D hi ⟨rfl, rfl⟩ _ ⟨rfl, ta, rfl⟩ offC offD apO ownD
    refine ⟨fun m2 => m2 (Str.ofString "at") = some (.int (0 + (i : Int)) ta), cas_name rfl rfl, ?_⟩
    rintro oC' m2 hN h2'
    obtain ⟨L9, hL9⟩ : ∃ L9 : Led, L9 = (C', oC') :: (([] : Led) ++ (own ++ (D, lst9 ((List.range i).map fun j => Value.bool (ansF ns j))) :: l1)) := ⟨_, rfl⟩
    have sub : ∀ p ∈ l1, p ∈ L9 := fun p h => hL9 ▸ .tail _ (List.mem_append_right _ (List.mem_append_right _ (.tail _ h)))
    have hC9 : (C', oC') ∈ L9 := hL9 ▸ .head _
    have hlt := Nat.mod_lt i h0
    obtain ⟨v9, x9, hv9, hx9, t9, rfl⟩ := two_get h2 hlt
    have hgd : ns.getD (i % ns.length) 0 = x9 := by rw [List.getD_eq_getElem?_getD, hx9]; rfl
    rw [← hL9]
    refine Tr.mono (P := Is (Eqv (.bool (ansF ns i))) L9) (pu_cmpI (a := ((x9 / (2 + i) % 2 : Nat) : Int)) (b := 1) (op := .Eq) ?_ (pu_md (i := x9 / (2 + i)) (j := 2) (by omega) (pu_fd (i := x9) (j := 2 + i) (by omega) (by omega)
      (pi_item (n := kn) (a := ((i % ns.length : Nat) : Int)) (vs := nv) (D := nu) (sub _ hn) (by omega) (by rw [Int.toNat_natCast]; exact hv9) (by omega) (pu_item (a := 0) (vs := [.ref nu, _, _, _]) (sub _ hb) (Int.le_refl _) rfl (by omega) (pc_cell W rfl rfl (sub _ hoc) hcd) pu_int)
        (pu_md (i := i) (j := ns.length) h0 (Pu.as (Pu.int (pc_own W rfl hC9 hN h2')) (by omega)) (Pu.as (pu_len' (pc_built W rfl fact_len0 fact_len) (sub _ hn) (by omega) (pu_item (a := 0) (vs := [.ref nu, _, _, _]) (sub _ hb) (Int.le_refl _) rfl (by omega) (pc_cell W rfl rfl (sub _ hoc) hcd) pu_int)) (by omega))))
      (Pu.as (pu_add (a := 2) (b := 0 + (i : Int)) pu_int (Pu.int (pc_own W rfl hC9 hN h2'))) (by omega))) pu_int) pu_int) ?_
    · show some _ = some _
      unfold ansF
      rw [hgd]
    · rintro y _ ⟨rfl, rfl⟩
      refine ⟨l1, fun p h => ?_, fun p h => ⟨offC p (List.mem_append_right _ (List.mem_append_right _ (.tail _ h))), offD p h⟩, apO, trivial, rfl, ?_⟩
      · rw [hL9]; exact h
      · rw [List.range_succ, List.map_append]; rfl
  · rintro an ys _ ⟨rfl, rfl⟩ off
    exact k an off _
end
open PySem.SeqAt in
inductive EqsL (l : Led) : Nat → Value → Value → Prop
  | same {n : Nat} {v : Value} : EqsL l n v v
  | int {n : Nat} {a : Int} {t u : Tok} : EqsL l n (.int a t) (.int a u)
  | str {n : Nat} {a : Str} {t u : Tok} : EqsL l n (.str a t) (.str a u)
  | tup {n : Nat} {a b : Addr} {xs ys : List Value} : (a, tupO xs) ∈ l → (b, tupO ys) ∈ l → xs.length = ys.length → (∀ (j : Nat) x y, xs[j]? = some x → ys[j]? = some y → EqsL l n x y) → EqsL l (n + 1) (.ref a) (.ref b)
section
open PySem.SeqAt
variable {prog : Program} {w : World} {c : Wc prog w} {m : Nm} {l l' : Led} {e1 e2 : Expr} {v1 v2 : Value} {pos : Pos} {bb : Bool} {R1 : Value → Prop} {P2 : Value → Led → Prop} {A : Around} {n : Nat}
theorem all_true (n : Nat) : (List.range n).all (fun _ => true) = true := by simp
theorem units_in1 : A.in1.units ≤ A.units + 1 := Nat.le_refl _
theorem EqsL.at {h : Heap} {tk : Tok} (H : At c m l h) (e : EqsL l n v1 v2) : ∀ {A : Around}, A.units + n < cLine → EqAt A (c.st h tk) v1 v2 true := by
  induction e with
  | same => exact fun _ => EqAt.same _
  | @int n a t u => exact fun _ => (beq_self_eq_true a) ▸ EqAt.int_int a t a u
  | @str n a t u => exact fun _ => (beq_self_eq_true a) ▸ EqAt.str_str a t a u
  | @tup n a b xs ys ha hb hl _ ih =>
    intro A hu
    by_cases hab : a = b
    · exact hab ▸ EqAt.same _
    · have r := RcAt.tuples (A := A) (s := c.st h tk) (e := fun _ => true) ⟨_, (H.N _ ha).1, rfl, 0, rfl⟩ ⟨_, (H.N _ hb).1, rfl, 0, rfl⟩ (by omega) fun j h1 h2 => ih j _ _ (by rw [← List.getElem?_toArray]; exact Array.getElem?_eq_getElem h1) (by rw [← List.getElem?_toArray]; exact Array.getElem?_eq_getElem h2) (by have := units_in1 (A := A); omega)
      have hz : ((List.range (min xs.toArray.size ys.toArray.size)).all (fun _ => true) && xs.toArray.size == ys.toArray.size) = true := by
        rw [all_true, List.size_toArray, List.size_toArray, hl]; simp
      rw [hz] at r
      exact EqAt.of_refs hab r
noncomputable def NeL (l : Led) (n : Nat) (v1 v2 : Value) (bb : Bool) : Prop := ∀ {prog : Program} {w : World} {c : Wc prog w} {m : Nm} {h : Heap} {tk : Tok} {A : Around}, At c m l h → A.units + n < cLine → RcNeAt A (c.st h tk) v1 v2 bb
theorem ne_lists {a b : Addr} {xs ys : List Value} {n1 n2 : Nat} (ha : (a, lstO xs n1) ∈ l) (hb : (b, lstO ys n2) ∈ l) (hl : xs.length = ys.length) (hx : ∀ (j : Nat) x y, xs[j]? = some x → ys[j]? = some y → EqsL l n x y) : NeL l (n + 1) (.ref a) (.ref b) false := fun {prog w c m h tk A} H hu => by
  have r := RcNeAt.lists (A := A) (s := c.st h tk) (e := fun _ => true) ⟨_, (H.N _ ha).1, rfl, n1, rfl⟩ ⟨_, (H.N _ hb).1, rfl, n2, rfl⟩ (by rw [List.size_toArray, List.size_toArray, hl]) (by omega) fun j h1 h2 => (hx j _ _ (by rw [← List.getElem?_toArray]; exact Array.getElem?_eq_getElem h1) (by rw [← List.getElem?_toArray]; exact Array.getElem?_eq_getElem h2)).at H (by have := units_in1 (A := A); omega)
  rw [all_true] at r
  exact r
theorem ne_lens {a b : Addr} {xs ys : List Value} {n1 n2 : Nat} (ha : (a, lstO xs n1) ∈ l) (hb : (b, lstO ys n2) ∈ l) (hl : xs.length ≠ ys.length) : NeL l 0 (.ref a) (.ref b) true := fun {prog w c m h tk A} H hu =>
  RcNeAt.lists_lengths (A := A) (s := c.st h tk) ⟨_, (H.N _ ha).1, rfl, n1, rfl⟩ ⟨_, (H.N _ hb).1, rfl, n2, rfl⟩ (by rw [List.size_toArray, List.size_toArray]; exact bne_iff_ne.mpr hl) (by omega)
theorem ne_tups {a b : Addr} {xs ys : List Value} (ha : (a, tupO xs) ∈ l) (hb : (b, tupO ys) ∈ l) (hl : xs.length = ys.length) (hx : ∀ (j : Nat) x y, xs[j]? = some x → ys[j]? = some y → EqsL l n x y) : NeL l (n + 1) (.ref a) (.ref b) false := fun {prog w c m h tk A} H hu => by
  have r := RcNeAt.tuples (A := A) (s := c.st h tk) (e := fun _ => true) ⟨_, (H.N _ ha).1, rfl, 0, rfl⟩ ⟨_, (H.N _ hb).1, rfl, 0, rfl⟩ (by omega) fun j h1 h2 => (hx j _ _ (by rw [← List.getElem?_toArray]; exact Array.getElem?_eq_getElem h1) (by rw [← List.getElem?_toArray]; exact Array.getElem?_eq_getElem h2)).at H (by have := units_in1 (A := A); omega)
  have hz : ((List.range (min xs.toArray.size ys.toArray.size)).all (fun _ => true) && xs.toArray.size == ys.toArray.size) = true := by
    rw [all_true, List.size_toArray, List.size_toArray, hl]; simp
  rw [hz] at r
  exact r
noncomputable abbrev TsP (c : Wc prog w) (m : Nm) (l : Led) (e : Expr) (b : Bool) (P : Led → Prop) : Prop := Tr c m l (isTrue e c.env (eval e c.env)) (fun b' l' => b' = b ∧ P l')
theorem TsP.ts (h : TsP c m l e1 bb (fun l' => ∀ p ∈ l, p ∈ l')) : Ts c m l e1 bb := .mk fun h0 tk Q E H kk => h.run h0 tk Q E H fun b' l' h' tk' p H' => kk b' l h' tk' ⟨p.1, rfl⟩ (at_sub H' p.2)
theorem ts_neP {P1 : Value → Led → Prop} {P2 : Value → Value → Led → Prop} {P : Led → Prop} (h1 : Ev c m l e1 P1) (h2 : ∀ v1 l', P1 v1 l' → Ev c m l' e2 (P2 v1)) (hu : c.un + n < cLine) (k : ∀ v1 v2 l', P2 v1 v2 l' → P l' ∧ NeL l' n v1 v2 bb) (hb : behindInMarks .NotEq e2 = false := by rfl) : TsP c m l (.Compare e1 [.NotEq] [e2] pos) bb P := .mk fun h tk Q E H kk => by
  refine wpAny_isTrue_Compare1 (h1.run h tk _ E H ?_) hb
  intro v1 l1 h' tk' p1 H'
  refine (h2 v1 l1 p1).run h' tk' _ E H' ?_
  intro v2 l2 h2 tk2 p2 H2
  obtain ⟨hP, hN⟩ := k v1 v2 l2 p2
  exact hN H2 hu prog w E _ (wpAny_truthy_bool (kk _ _ _ _ ⟨rfl, hP⟩ H2))
theorem ts_ne {P1 : Value → Led → Prop} {P2 : Value → Value → Led → Prop} (h1 : Ev c m l e1 P1) (h2 : ∀ v1 l', P1 v1 l' → Ev c m l' e2 (P2 v1)) (hu : c.un + n < cLine) (k : ∀ v1 v2 l', P2 v1 v2 l' → (∀ p ∈ l, p ∈ l') ∧ NeL l' n v1 v2 bb) (hb : behindInMarks .NotEq e2 = false := by rfl) : Ts c m l (.Compare e1 [.NotEq] [e2] pos) bb := (ts_neP h1 h2 hu k hb).ts
end
structure Cells (L : Addr) (l : Led) (v1 v2 v3 v4 : Option Value) : Prop where
  c1 : CellIn l (L + 1) v1
  c2 : CellIn l (L + 2) v2
  c3 : CellIn l (L + 3) v3
  c4 : CellIn l (L + 4) v4
theorem CellIn.sub {l l' : Led} {a : Addr} {v : Option Value} (h : CellIn l a v) (hs : ∀ p ∈ l, p.1 = a → p ∈ l') : CellIn l' a v := let ⟨o, h1, h2⟩ := h; ⟨o, hs _ h1 rfl, h2⟩
theorem Cells.sub {L : Addr} {l l' : Led} {v1 v2 v3 v4 : Option Value} (h : Cells L l v1 v2 v3 v4) (hs : ∀ p ∈ l, p ∈ l') : Cells L l' v1 v2 v3 v4 := ⟨h.c1.sub fun p h _ => hs p h, h.c2.sub fun p h _ => hs p h, h.c3.sub fun p h _ => hs p h, h.c4.sub fun p h _ => hs p h⟩
theorem CellIn.other {l : Led} {a b : Addr} {o' : Obj} {v : Option Value} (h : CellIn l a v) (hab : a ≠ b) : CellIn ((b, o') :: without b l) a v := h.sub fun p hp e => .tail _ (mem_without.mpr ⟨hp, e ▸ hab⟩)
theorem Cells.set3 {L : Addr} {l : Led} {v1 v2 v3 v4 v : Option Value} {o' : Obj} (h : Cells L l v1 v2 v3 v4) (ho : o'.data = .cell v) : Cells L ((L + 3, o') :: without (L + 3) l) v1 v2 v v4 :=
  ⟨h.c1.other (fun e => absurd (Nat.add_left_cancel e) (by decide)), h.c2.other (fun e => absurd (Nat.add_left_cancel e) (by decide)), ⟨o', .head _, ho⟩, h.c4.other (fun e => absurd (Nat.add_left_cancel e) (by decide))⟩
theorem Cells.set2 {L : Addr} {l : Led} {v1 v2 v3 v4 v : Option Value} {o' : Obj} (h : Cells L l v1 v2 v3 v4) (ho : o'.data = .cell v) : Cells L ((L + 2, o') :: without (L + 2) l) v1 v v3 v4 :=
  ⟨h.c1.other (fun e => absurd (Nat.add_left_cancel e) (by decide)), ⟨o', .head _, ho⟩, h.c3.other (fun e => absurd (Nat.add_left_cancel e) (by decide)), h.c4.other (fun e => absurd (Nat.add_left_cancel e) (by decide))⟩
section
variable {prog : Program} {w : World} {c : Wc prog w} {sc : Scope} {m : Nm} {l l' : Led} {e e1 e2 : Expr} {pos pos' tp p1 p2 : Pos} {x y : Str} {k9 : Nat} {rest body orelse : List Stmt} {Q : Flow → Shared → Prop} {ca D : Addr} {o : Obj} {v0 : Option Value} {v1 v2 : Value} {bb : Bool} {P : Led → Prop} {target : Expr} {v : Value}
theorem GoT.sub (h : GoT c Q m l' target v body) (hs : ∀ p ∈ l', p ∈ l) : GoT c Q m l target v body := .mk fun h0 tk E H => h.run h0 tk E (at_sub H hs)
theorem GoT.fn (h : FunL l → GoT c Q m l target v body) : GoT c Q m l target v body := .mk fun h0 tk E H => (h H.funL).run h0 tk E H
theorem gt_pairC2 (W : c.Okf sc) (hm : (D, tupO [v1, v2]) ∈ l) (hc : c.cl.lookup x = some ca) (hca : (ca, o) ∈ l) (ho : o.data = .cell v0) (k : ∀ o', o'.data = .cell (some v1) → Go c Q (upd m y v2) ((ca, o') :: without ca l) body) (hl : sc.names.lookup x = some .cell := by rfl) (hl2 : sc.names.lookup y = some .local := by rfl) :
    GoT c Q m l (.Tuple [.Name x p1, .Name y p2] k9 tp) (.ref D) body := GoT.fn fun F => GoT.sub (l' := (ca, o) :: without ca l) (gt_pairC W (.tail _ (mem_without.mpr ⟨hm, not_cell F hca ho hm nc_tup⟩)) hc updF_front ho k hl hl2) fun p hp => (List.mem_cons.mp hp).elim (fun e => e ▸ hca) fun hp => (mem_without.mp hp).1
theorem Ts.tsp {b : Bool} (h : Ts c m l e b) (hP : P l) : TsP c m l e b P := .mk fun h0 tk Q E H kk => h.run h0 tk Q E H fun b' l' h' tk' p H' => kk b' l' h' tk' ⟨p.1, p.2 ▸ hP⟩ H'
theorem tsp_or_nil (hP : P l) : TsP c m l (.BoolOp .Or [] pos) false P := ts_or_nil.tsp hP
theorem tsp_and_nil (hP : P l) : TsP c m l (.BoolOp .And [] pos) true P := ts_and_nil.tsp hP
theorem tsp_or_f {es : List Expr} {P1 : Led → Prop} (h1 : TsP c m l e false P1) (h2 : ∀ l', P1 l' → TsP c m l' (.BoolOp .Or es pos) bb P) : TsP c m l (.BoolOp .Or (e :: es) pos) bb P := .mk fun h tk Q E H kk => by
  refine isTrue_or (h1.run h tk _ E H ?_)
  rintro _ l1 h' tk' ⟨rfl, p⟩ H'
  exact (h2 l1 p).run h' tk' Q E H' kk
theorem tsp_and_t {es : List Expr} {P1 : Led → Prop} (h1 : TsP c m l e true P1) (h2 : ∀ l', P1 l' → TsP c m l' (.BoolOp .And es pos) bb P) : TsP c m l (.BoolOp .And (e :: es) pos) bb P := .mk fun h tk Q E H kk => by
  refine isTrue_and (h1.run h tk _ E H ?_)
  rintro _ l1 h' tk' ⟨rfl, p⟩ H'
  rw [if_pos rfl]
  exact (h2 l1 p).run h' tk' Q E H' kk
theorem tsp_and_f {es : List Expr} (h1 : TsP c m l e false P) : TsP c m l (.BoolOp .And (e :: es) pos) false P := .mk fun h tk Q E H kk => by
  refine isTrue_and (h1.run h tk _ E H ?_)
  rintro _ l1 h' tk' ⟨rfl, p⟩ H'
  exact kk _ _ _ _ ⟨rfl, p⟩ H'
theorem go_skipP (ht : TsP c m l e false P) (k : ∀ l', P l' → Go c Q m l' rest) : Go c Q m l (.If e body [] pos :: rest) := .mk fun h0 tk E H => by
  refine wpAny_execs_cons (wpAny_If (ht.run h0 tk _ E H ?_))
  rintro _ l1 h' tk' ⟨rfl, p⟩ H'
  exact wpAny_execs_nil ((k l1 p).run h' tk' E H')
end
theorem fact_gone : ∀ P, nsIn (Mine.K P) mainGlobals (Str.ofString "_law_gone") = some (some (.ref 177)) := fun P => by k_is
theorem fact_gone2 : ∀ P, keepIn (Mine.K P) (.ref 177) = true := fun P => by k_is
structure LawB (prog : Program) (w : World) (lb : Led) (ts : List (Int × T)) (N : Nat) (ans : Nat → Bool) (pd an fo : Addr) : Prop where
  nc : ∀ p ∈ lb, NC p.2
  pd : ∃ ys k9, (pd, lstO ys k9) ∈ lb ∧ Two (LineAt lb) ys ts
  an : AnsIn lb an ans (N + 1)
  fl : FlatAt prog w ts [] (.ref fo) lb
  ok : OkL N ts
  nd : (ts.map (·.1)).Nodup
  sz : wgt ts < 299
structure Nms (m : Nm) (pd an dd : Addr) : Prop where
  pd : m (Str.ofString "parsed") = some (.ref pd)
  an : m (Str.ofString "answers") = some (.ref an)
  dd : m (Str.ofString "data") = some (.ref dd)
theorem wgt_mem {ts : List (Int × T)} {x : Int × T} (h : x ∈ ts) : x.2.size < wgt ts := by
  induction ts with
  | nil => cases h
  | cons y r ih =>
    rw [wgt]
    rcases List.mem_cons.mp h with rfl | h
    · omega
    · have := ih h; omega
inductive L5J (lb : Led) (ts : List (Int × T)) (L bx pd an dd fo : Addr) (r : List Value) (m1 : Nm) (l1 : Led) : Prop
  | mk (rs : List (Int × T)) (v2 v3 : Option Value) (h : Two (LineAt lb) r rs) (hin : ∀ x ∈ rs, x ∈ ts) (sub : ∀ p ∈ lb, p ∈ l1) (cells : Cells L l1 (some (.ref bx)) v2 v3 (some (.ref fo))) (nm : Nms m1 pd an dd)
section
variable {prog : Program} {w : World} {c : Wc prog w} {m : Nm} {l l' lb : Led} {rest : List Stmt} {Q : Flow → Shared → Prop}
theorem nc_ne {p : Addr × Obj} {a : Addr} {v : Option Value} (F : FunL l) (hc : CellIn l a v) (hp : p ∈ l) (hn : NC p.2) : p.1 ≠ a := let ⟨_, h1, h2⟩ := hc; not_cell F h1 h2 hp hn
set_option maxRecDepth 100000 in
theorem law_5 {ts : List (Int × T)} {N : Nat} {ans : Nat → Bool} {pd an fo dd bx : Addr} {v2 v3 : Option Value} (C : LawC c) (B : LawB prog w lb ts N ans pd an fo) (sub : ∀ p ∈ lb, p ∈ l) (cl : Cells c.L l (some (.ref bx)) v2 v3 (some (.ref fo))) (nm : Nms m pd an dd)
    (k : ∀ m' l' v2 v3, (∀ p ∈ lb, p ∈ l') → Cells c.L l' (some (.ref bx)) v2 v3 (some (.ref fo)) → Nms m' pd an dd → Go c Q m' l' rest) : Go c Q m l (lawSt5 :: rest) := by
  unfold lawSt5
  have W := C.W
  have hdp := C.dp
  have hun := C.un
  obtain ⟨ys, k9, hpd, hys⟩ := B.pd
  refine go_forL W (L5J lb ts c.L bx pd an dd fo) (li := pd) (k9 := k9) (items := ys) (pu_name W nm.pd) (.mk ts v2 v3 hys (fun x h => h) sub cl nm) (fun r m1 l1 h => by obtain ⟨_, _, _, _, _, h, _, _⟩ := h; exact h _ hpd) ?_ (fun m1 l1 h => by obtain ⟨_, v2, v3, _, _, h1, h2, h3⟩ := h; exact k m1 l1 v2 v3 h1 h2 h3)
  rintro v r m1 l1 I o Q' ⟨rs, v2, v3, hrs, hin, sub1, cl1, nm1⟩ off T9
  cases hrs with
  | @cons _ x _ rs' hx hrs' =>
  obtain ⟨b, t, q, xs, nq, rfl, hb, hq, hR⟩ := hx
  refine GoT.fn fun F1 => ?_
  obtain ⟨o3, ho3, hd3⟩ := cl1.c3
  refine gt_pairC2 W (.tail _ (sub1 _ hb)) (by rw [C.cl]; exact rfl) (.tail _ ho3) hd3 fun o' ho' => ?_
  have hI3 : I ≠ c.L + 3 := (off _ ho3).symm
  obtain ⟨l2, hl2⟩ : ∃ l2 : Led, l2 = (c.L + 3, o') :: without (c.L + 3) l1 := ⟨_, rfl⟩
  have cl2 : Cells c.L l2 (some (.ref bx)) v2 (some (.int x.1 t)) (some (.ref fo)) := hl2 ▸ cl1.set3 ho'
  have F0 : FunL l1 := ⟨fun p hp q hq => F1.eq p (.tail _ hp) q (.tail _ hq)⟩
  have sub2 : ∀ p ∈ lb, p ∈ l2 := fun p hp => hl2 ▸ .tail _ (mem_without.mpr ⟨sub1 p hp, nc_ne F0 cl1.c3 (sub1 p hp) (B.nc p hp)⟩)
  have off2 : ∀ p ∈ l2, p.1 ≠ I := fun p hp => by
    rw [hl2] at hp
    rcases List.mem_cons.mp hp with rfl | hp
    · exact hI3.symm
    · exact off p (mem_without.mp hp).1
  refine Go.sub (l' := (I, o) :: l2) ?_ (fun p hp => ?_)
  · have hxin := hin x (.head _)
    obtain ⟨hO1, hO2⟩ := B.ok x hxin
    have hsz := wgt_mem hxin
    have hw := B.sz
    have sub3 : ∀ p ∈ lb, p ∈ (I, o) :: l2 := fun p hp => .tail _ (sub2 p hp)
    refine go_assign W (ev_call W fact_come fact_come2 (C := fun vs l' => vs = [.ref q, .ref an] ∧ l' = (I, o) :: l2) (P := NewL ((I, o) :: l2) (come ans x.2)) (ar_cons (pu_name W (if_pos rfl)) ?_) ?_) ?_
    · rintro _ _ ⟨rfl, rfl⟩
      refine ar_cons (pu_name W ((if_neg (by decide +kernel)).trans nm1.an)) ?_
      rintro _ _ ⟨rfl, rfl⟩
      exact ar_nil ⟨rfl, rfl⟩
    · rintro _ _ ⟨rfl, rfl⟩
      exact come_call prog w ans x.2 W.toOk (sub3 _ hq) (B.an.mono sub3) (hR.mono sub3) hO1 (by omega) (by omega)
    rintro _ _ ⟨D1, k1, rfl, rfl, hD1⟩
    have sub4 : ∀ p ∈ lb, p ∈ (D1, lstO (come ans x.2) k1) :: (I, o) :: l2 := fun p hp => .tail _ (sub3 p hp)
    have fl9 := B.fl
    cases fl9 with
    | @mk f its dv vw vf vh n nd rows pl oPl oP oL oF kvPl _ a0 a1 a2 a3 a4 a5 a6 a7 a8 a9 b1 b2 b3 b4 b5 G =>
    obtain ⟨n0, kk, vs, hat, hG, hkk, hor⟩ := gone_is (ans := ans) a4 B.nd B.ok hxin
    obtain ⟨st9, hval⟩ : ∃ st9, valueAt kvPl x.1 = some (.int (n0 : Int) st9) := by
      rcases kv_at a7 x.1 with ⟨v, y, h1, h2, tt, rfl⟩ | ⟨h1, h2⟩
      · rw [hat] at h2
        cases h2
        exact ⟨tt, h1⟩
      · rw [hat] at h2
        cases h2
    obtain ⟨o3', hc3, hd3'⟩ := cl2.c3
    obtain ⟨o4', hc4, hd4'⟩ := cl2.c4
    refine go_assign W (ev_call W fact_gone fact_gone2 (C := fun vs l' => vs = [.ref f.o, .int x.1 t, .ref an] ∧ l' = (D1, lstO (come ans x.2) k1) :: (I, o) :: l2) (P := NewL ((D1, lstO (come ans x.2) k1) :: (I, o) :: l2) vs) (ar_cons (pu_cell W (by rw [C.cl]; exact rfl) (.tail _ (.tail _ hc4)) hd4') ?_) ?_) ?_
    · rintro _ _ ⟨rfl, rfl⟩
      refine ar_cons (pu_cell W (by rw [C.cl]; exact rfl) (.tail _ (.tail _ hc3)) hd3') ?_
      rintro _ _ ⟨rfl, rfl⟩
      refine ar_cons (pu_name W ((if_neg (by decide +kernel)).trans ((if_neg (by decide +kernel)).trans nm1.an))) ?_
      rintro _ _ ⟨rfl, rfl⟩
      exact ar_nil ⟨rfl, rfl⟩
    · rintro _ _ ⟨rfl, rfl⟩
      exact gone_call W.toOk (a1.mono sub4) (sub4 _ a2) (a3.mono sub4) (a6.mono sub4) hval (B.an.mono sub4) hG hkk (by omega) (by omega) (by omega)
    rintro _ _ ⟨D2, k2, rfl, rfl, hD2⟩
    refine go_skip ?_ ?_
    · have pf : ∀ lq, Pu c (upd (upd (upd m1 (Str.ofString "statements") (.ref q)) (Str.ofString "due") (.ref D1)) (Str.ofString "found") (.ref D2)) lq (.Name (Str.ofString "found") ⟨169, 11, 169, 16⟩) (Eqv (.ref D2)) := fun lq => pu_name W (if_pos rfl)
      rcases hor with rfl | ⟨hnil, v9, rfl, hv9⟩
      · refine ts_and_f (ts_ne (n := 1) (P2 := fun v1 v2 l' => v1 = .ref D2 ∧ v2 = .ref D1 ∧ l' = (D2, lstO (come ans x.2) k2) :: (D1, lstO (come ans x.2) k1) :: (I, o) :: l2) (pf _) ?_ (by omega) ?_)
        · rintro _ _ ⟨rfl, rfl⟩
          exact (pu_name W ((if_neg (by decide +kernel)).trans (if_pos rfl))).mono fun v l' h => ⟨rfl, h.1, h.2⟩
        · rintro _ _ _ ⟨rfl, rfl, rfl⟩
          exact ⟨fun p h => h, ne_lists (n := 0) (.head _) (.tail _ (.head _)) rfl fun j a b h1 h2 => by rw [h1] at h2; cases h2; exact .same⟩
      · obtain ⟨x1, x2⟩ := x
        dsimp only at hnil hR hv9
        subst hnil
        have hxs : xs = [] := by cases hR; rfl
        subst hxs
        obtain ⟨a9', k9', t9', hv9e, ha9⟩ : ∃ a k k2, v9 = .ref a ∧ (a, tupO [.str (Str.ofString "REM") k, .str (Str.ofString "") k2]) ∈ lb := by
          obtain ⟨j, hj⟩ := List.getElem?_of_mem hv9
          obtain ⟨it, _, b, a, t, k, rest, _, _, h1, h2, k2, rfl⟩ := Two.atR a3 hj
          exact ⟨a, k, k2, h2.symm, h1⟩
        subst hv9e
        have sub5 : ∀ p ∈ lb, p ∈ (D2, lstO [.ref a9'] k2) :: (D1, lstO (come ans .nil) k1) :: (I, o) :: l2 := fun p hp => .tail _ (sub4 p hp)
        refine ts_and_t (ts_ne (n := 0) (P2 := fun v1 v2 l' => v1 = .ref D2 ∧ v2 = .ref D1 ∧ l' = (D2, lstO [.ref a9'] k2) :: (D1, lstO (come ans .nil) k1) :: (I, o) :: l2) (pf _) ?_ (by omega) ?_) (ts_and_f (ts_or_f (ts_ne (n := 1) (P1 := Is (Eqv (.ref q)) _) (P2 := fun v1 v2 l' => v1 = .ref q ∧ ∃ D, v2 = .ref D ∧ l' = (D, lstO [] 0) :: (D2, lstO [.ref a9'] k2) :: (D1, lstO (come ans .nil) k1) :: (I, o) :: l2) (pu_name W ((if_neg (by decide +kernel)).trans ((if_neg (by decide +kernel)).trans (if_pos rfl)))) ?_ (by omega) ?_) (ts_or_f (ts_ne (n := 2) (P2 := fun v1 v2 l' => v1 = .ref D2 ∧ ∃ D E t1 t2, v2 = .ref D ∧ l' = (D, lstO [.ref E] 0) :: (E, tupO [.str (Str.ofString "REM") t1, .str (Str.ofString "") t2]) :: (D2, lstO [.ref a9'] k2) :: (D1, lstO (come ans .nil) k1) :: (I, o) :: l2) (pu_name W (if_pos rfl)) ?_ (by omega) ?_) ts_or_nil)))
        · rintro _ _ ⟨rfl, rfl⟩
          exact (pu_name W ((if_neg (by decide +kernel)).trans (if_pos rfl))).mono fun v l' h => ⟨rfl, h.1, h.2⟩
        · rintro _ _ _ ⟨rfl, rfl, rfl⟩
          exact ⟨fun p h => h, ne_lens (.head _) (.tail _ (.head _)) (by rw [come]; simp)⟩
        · rintro _ _ ⟨rfl, rfl⟩
          exact ev_nil.mono fun v l' ⟨D, h1, h2, _⟩ => ⟨rfl, D, h1, h2⟩
        · rintro _ _ _ ⟨rfl, D, rfl, rfl⟩
          exact ⟨fun p h => .tail _ h, ne_lists (n := 0) (.tail _ (sub5 _ hq)) (.head _) rfl fun j a b h1 => by cases h1⟩
        · rintro _ _ ⟨rfl, rfl⟩
          refine ev_list (P1 := fun vs l' => ∃ E t1 t2, vs = [.ref E] ∧ l' = (E, tupO [.str (Str.ofString "REM") t1, .str (Str.ofString "") t2]) :: (D2, lstO [.ref a9'] k2) :: (D1, lstO (come ans .nil) k1) :: (I, o) :: l2) (ar_cons (P1 := fun v l' => ∃ E t1 t2, v = .ref E ∧ l' = (E, tupO [.str (Str.ofString "REM") t1, .str (Str.ofString "") t2]) :: (D2, lstO [.ref a9'] k2) :: (D1, lstO (come ans .nil) k1) :: (I, o) :: l2) (ev_tup (P1 := fun vs l' => ∃ t1 t2, vs = [.str (Str.ofString "REM") t1, .str (Str.ofString "") t2] ∧ l' = (D2, lstO [.ref a9'] k2) :: (D1, lstO (come ans .nil) k1) :: (I, o) :: l2) (ar_cons pu_str ?_) ?_) ?_) ?_
          · rintro _ _ ⟨⟨t1, rfl⟩, rfl⟩
            refine ar_cons pu_str ?_
            rintro _ _ ⟨⟨t2, rfl⟩, rfl⟩
            exact ar_nil ⟨t1, t2, rfl, rfl⟩
          · rintro _ _ ⟨t1, t2, rfl, rfl⟩
            exact ⟨Nat.le_of_ble_eq_true rfl, fun E _ => ⟨E, t1, t2, rfl, rfl⟩⟩
          · rintro _ _ ⟨E, t1, t2, rfl, rfl⟩
            exact ar_nil ⟨E, t1, t2, rfl, rfl⟩
          · rintro _ _ ⟨E, t1, t2, rfl, rfl⟩
            exact ⟨Nat.le_of_ble_eq_true rfl, fun D _ => ⟨rfl, D, E, t1, t2, rfl, rfl⟩⟩
        · rintro _ _ _ ⟨rfl, D, E, t1, t2, rfl, rfl⟩
          refine ⟨fun p h => .tail _ (.tail _ h), ne_lists (n := 1) (xs := [.ref a9']) (ys := [.ref E]) (n1 := k2) (n2 := 0) (.tail _ (.tail _ (.head _))) (.head _) rfl fun j a b h1 h2 => ?_⟩
          have hj : j = 0 := by
            have := (List.getElem?_eq_some_iff.mp h1).1
            simp at this; exact this
          subst hj
          cases h1
          cases h2
          refine .tup (.tail _ (.tail _ (sub5 _ ha9))) (.tail _ (.head _)) rfl fun j a b h1 h2 => ?_
          match j, h1, h2 with
          | 0, h1, h2 => cases h1; cases h2; exact .str
          | 1, h1, h2 => cases h1; cases h2; exact .str
          | (_ + 2), h1, _ => cases h1
    · refine turnE T9 off2 ?_ fun p hp => .tail _ (.tail _ hp)
      refine .mk rs' v2 _ hrs' (fun y hy => hin y (.tail _ hy)) sub2 cl2 ⟨?_, ?_, ?_⟩
      · exact (if_neg (by decide +kernel)).trans ((if_neg (by decide +kernel)).trans ((if_neg (by decide +kernel)).trans nm1.pd))
      · exact (if_neg (by decide +kernel)).trans ((if_neg (by decide +kernel)).trans ((if_neg (by decide +kernel)).trans nm1.an))
      · exact (if_neg (by decide +kernel)).trans ((if_neg (by decide +kernel)).trans ((if_neg (by decide +kernel)).trans nm1.dd))
  · rcases List.mem_cons.mp hp with rfl | hp
    · exact .tail _ (mem_without.mpr ⟨.head _, hI3⟩)
    · rw [hl2] at hp
      rcases List.mem_cons.mp hp with rfl | hp
      · exact .head _
      · exact .tail _ (mem_without.mpr ⟨.tail _ (mem_without.mp hp).1, (mem_without.mp hp).2⟩)
end
inductive C6J (l2 : Led) (xs : List (Int × Str)) (i : Nat) (ys : List Value) (l1 : Led) : Prop
  | mk (nw : Led) (sub : ∀ p ∈ l2, p ∈ l1) (nws : ∀ p ∈ nw, p ∈ l1) (new : ∀ p ∈ nw, ∀ q ∈ l2, p.1 ≠ q.1) (h : Two (DataV nw) ys (xs.take i))
section
variable {prog : Program} {w : World} {c : Wc prog w} {m : Nm} {l l' lb : Led} {rest : List Stmt} {Q : Flow → Shared → Prop}
theorem data_comp {oc : Obj} {li : Addr} {t : Tok} {line : Int} {s1 s2 : Str} {k1 k2 : Tok} {n : Nat} {e : Expr} {p1 p2 p3 p4 p5 : Pos} (C : LawC c) (hc : (c.L + 3, oc) ∈ l) (hd : oc.data = .cell (some (.int line t))) (he : Pu c m l e (Eqv (.ref li))) (hl : (li, lstO [.str s1 k1, .str s2 k2] n) ∈ l)
    (hs : ∀ x, foldedSetIterable e c.env x = pure x) :
    Ev c m l (.ListComp (.Tuple [.Name (Str.ofString "line") p1, .Name (Str.ofString "text") p2] 0 p3) [⟨.Name (Str.ofString "text") p4, e, [], 0⟩] { kind := .function, names := [(Str.ofString ".0", .local), (Str.ofString "text", .local), (Str.ofString "line", .free)], isGenerator := false, isCoroutine := false } p5)
      (fun v l' => ∃ D ys k nw, v = .ref D ∧ (D, lstO ys k) ∈ l' ∧ (∀ p ∈ l, p ∈ l') ∧ (∀ p ∈ nw, p ∈ l') ∧ (∀ p ∈ nw, ∀ q ∈ l, p.1 ≠ q.1) ∧ Two (DataV nw) ys [(line, s1), (line, s2)]) := by
  have W := C.W
  refine Tr.mono (ev_comp (n := 2) (J := C6J l [(line, s1), (line, s2)]) (cl := [(Str.ofString "line", c.L + 3)]) ?_ ?_ ?_ ?_ (src_list (items := [.str s1 k1, .str s2 k2]) (k9 := n) he hl) (by omega) (.mk [] (fun p h => h) (fun p h => nomatch h) (fun p h => nomatch h) .nil) hl ?_ hs) ?_
  · rw [W.he, C.cl, W.hs]; exact rfl
  · decide
  · exact rfl
  · decide
  · rintro i v ex own l1 ys C' D hi ⟨nw, sub, nws, new, hys⟩ hlo ⟨rfl, hv⟩ offC offD apO ownD
    obtain ⟨x, kx, rfl, hx⟩ : ∃ (x : Str) (kx : Tok), v = .str x kx ∧ [(line, s1), (line, s2)][i]? = some (line, x) := by
      match i, hv with
      | 0, hv => cases hv; exact ⟨_, _, rfl, rfl⟩
      | 1, hv => cases hv; exact ⟨_, _, rfl, rfl⟩
      | (_ + 2), hv => cases hv
    refine ⟨fun m2 => m2 (Str.ofString "text") = some (.str x kx), cas_name rfl rfl, ?_⟩
    rintro oC' m2 hN h2
    obtain ⟨L9, hL9⟩ : ∃ L9 : Led, L9 = (C', oC') :: (([] : Led) ++ (own ++ (D, lst9 ys) :: l1)) := ⟨_, rfl⟩
    have sub9 : ∀ p ∈ l1, p ∈ L9 := fun p h => hL9 ▸ .tail _ (List.mem_append_right _ (List.mem_append_right _ (.tail _ h)))
    have hC9 : (C', oC') ∈ L9 := hL9 ▸ .head _
    rw [← hL9]
    refine ev_tup (P1 := fun vs l' => vs = [.int line t, .str x kx] ∧ l' = L9) (ar_cons (pc_cell W rfl rfl (sub9 _ (sub _ hc)) hd) ?_) ?_
    · rintro _ _ ⟨rfl, rfl⟩
      refine ar_cons (pc_own W rfl hC9 hN h2) ?_
      rintro _ _ ⟨rfl, rfl⟩
      exact ar_nil ⟨rfl, rfl⟩
    · rintro _ _ ⟨rfl, e9⟩
      rw [e9]
      refine ⟨Nat.le_of_ble_eq_true rfl, fun E hE => ?_⟩
      have lt9 : ∀ p ∈ L9, p.1 ≠ E := fun p hp => Nat.ne_of_lt (allLt_iff.mp hE p hp)
      refine ⟨(E, tupO [.int line t, .str x kx]) :: l1, ?_, ?_, ?_, .tail _ hlo, .mk ((E, tupO [.int line t, .str x kx]) :: nw) (fun p h => .tail _ (sub p h)) (fun p h => (List.mem_cons.mp h).elim (fun e => e ▸ .head _) fun h => .tail _ (nws p h)) (List.forall_mem_cons.mpr ⟨fun q hq => (lt9 q (sub9 _ (sub q hq))).symm, new⟩) ?_⟩
      · intro p hp
        rcases List.mem_cons.mp hp with rfl | hp
        · exact .tail _ hC9
        rcases List.mem_append.mp hp with hp | hp
        · exact .tail _ (hL9 ▸ .tail _ (List.mem_append_right _ (List.mem_append_left _ hp)))
        rcases List.mem_cons.mp hp with rfl | hp
        · exact .tail _ (hL9 ▸ .tail _ (List.mem_append_right _ (List.mem_append_right _ (.head _))))
        rcases List.mem_cons.mp hp with rfl | hp
        · exact .head _
        · exact .tail _ (sub9 _ hp)
      · refine List.forall_mem_cons.mpr ⟨⟨(lt9 _ hC9).symm, (lt9 (D, lst9 ys) (hL9 ▸ .tail _ (List.mem_append_right _ (List.mem_append_right _ (.head _))))).symm⟩, fun p h => ⟨offC p (List.mem_append_right _ (List.mem_append_right _ (.tail _ h))), offD p h⟩⟩
      · intro q hq p hp
        rcases List.mem_cons.mp hp with rfl | hp
        · exact lt9 q (hL9 ▸ .tail _ (List.mem_append_right _ (List.mem_append_left _ hq)))
        · exact apO q hq p hp
      · rw [List.take_add_one, hx]
        exact (hys.mono fun _ _ h => DataV.mono (fun p h => .tail _ h) h).append (.cons ⟨E, t, kx, rfl, .head _⟩ .nil)
  · rintro v l' ⟨D, ys, l1, rfl, rfl, ⟨nw, sub, nws, new, hys⟩, off⟩
    exact ⟨D, ys, _, nw, rfl, .head _, fun p h => .tail _ (sub p h), fun p h => .tail _ (nws p h), new, hys⟩
inductive L6J (lb : Led) (L bx pd an fo : Addr) (its : List Value) (rows : List (Int × RK)) (r : List Value) (m1 : Nm) (l1 : Led) : Prop
  | mk (i : Nat) (dd : Addr) (dvs : List Value) (kd : Nat) (v2 v3 : Option Value) (hr : r = its.drop i) (sub : ∀ p ∈ lb, p ∈ l1) (cells : Cells L l1 (some (.ref bx)) v2 v3 (some (.ref fo))) (nm : Nms m1 pd an dd) (hd : (dd, lstO dvs kd) ∈ l1) (hv : Two (DataV l1) dvs (dataL (rows.take i)))
theorem dataL_snoc {rows : List (Int × RK)} {i : Nat} {x : Int × RK} (h : rows[i]? = some x) : dataL (rows.take (i + 1)) = dataL (rows.take i) ++ dataL [x] := by
  rw [List.take_add_one, h]
  unfold dataL
  rw [List.flatMap_append]
  rfl
theorem dataL_one (r : Int × RK) : (dataL [r]).length ≤ 2 := by
  obtain ⟨a, k⟩ := r
  cases k with
  | leaf v l => cases l <;> simp [dataL]
  | _ => simp [dataL]
theorem dataL_len (rows : List (Int × RK)) : (dataL rows).length ≤ 2 * rows.length := by
  induction rows with
  | nil => exact Nat.le_refl _
  | cons r rs ih =>
    have h1 := dataL_one r
    have h2 : dataL (r :: rs) = dataL [r] ++ dataL rs := by simp [dataL]
    rw [h2, List.length_append, List.length_cons]
    omega
set_option maxRecDepth 100000 in
theorem law_6 {f : FA} {its : List Value} {n : Nat} {rows : List (Int × RK)} {pd an dd bx : Addr} {kd : Nat} {v2 v3 : Option Value} (C : LawC c) (nc : ∀ p ∈ lb, NC p.2) (hf : FlatIn w.params f lb) (hr : (f.rows, lstO its n) ∈ lb) (hR : RowsL lb its rows) (hz : rows.length < 300) (sub : ∀ p ∈ lb, p ∈ l) (cl : Cells c.L l (some (.ref bx)) v2 v3 (some (.ref f.o))) (nm : Nms m pd an dd) (hdd : (dd, lstO [] kd) ∈ l)
    (k : ∀ m' l' dd' dvs kd' v2 v3, (∀ p ∈ lb, p ∈ l') → Cells c.L l' (some (.ref bx)) v2 v3 (some (.ref f.o)) → Nms m' pd an dd' → (dd', lstO dvs kd') ∈ l' → Two (DataV l') dvs (dataL rows) → Go c Q m' l' rest) : Go c Q m l (lawSt6 :: rest) := by
  unfold lawSt6
  have W := C.W
  have hlen := hR.length
  obtain ⟨o4, hc4, hd4⟩ := cl.c4
  refine go_forL W (L6J lb c.L bx pd an f.o its rows) (li := f.rows) (k9 := n) (items := its) (pu_rows W.toOk (hf.mono sub) (pu_cell W (by rw [C.cl]; exact rfl) hc4 hd4)) (.mk 0 dd [] kd v2 v3 rfl sub cl nm hdd .nil) (fun r m1 l1 h => by obtain ⟨_, _, _, _, _, _, _, h, _, _, _, _⟩ := h; exact h _ hr) ?_ (fun m1 l1 h => by
    obtain ⟨i, dd, dvs, kd, v2, v3, hi, h1, h2, h3, h4, h5⟩ := h
    have hge : its.length ≤ i := by
      have := congrArg List.length hi
      simp only [List.length_nil, List.length_drop] at this
      omega
    rw [List.take_of_length_le (by omega)] at h5
    exact k m1 l1 dd dvs kd v2 v3 h1 h2 h3 h4 h5)
  rintro v r m1 l1 I o Q' ⟨i, dd, dvs, kd, v2, v3, hi, sub1, cl1, nm1, hd1, hv1⟩ off T9
  have hvi : its[i]? = some v := by
    have : (its.drop i)[0]? = some v := by rw [← hi]; rfl
    rw [List.getElem?_drop] at this
    exact this
  have hri : r = its.drop (i + 1) := by
    have := congrArg List.tail hi
    rw [List.tail_drop] at this
    exact this
  obtain ⟨v', x, hv', hx, b, a, t, kk, rs, rfl, hb, ha, htl⟩ := two_get hR (i := i) (by have := (List.getElem?_eq_some_iff.mp hvi).1; omega)
  rw [hvi] at hv'
  cases hv'
  refine GoT.fn fun F1 => ?_
  obtain ⟨o3, ho3, hd3⟩ := cl1.c3
  refine gt_pairC2 W (.tail _ (sub1 _ hb)) (by rw [C.cl]; exact rfl) (.tail _ ho3) hd3 fun o' ho' => ?_
  have hI3 : I ≠ c.L + 3 := (off _ ho3).symm
  obtain ⟨l2, hl2⟩ : ∃ l2 : Led, l2 = (c.L + 3, o') :: without (c.L + 3) l1 := ⟨_, rfl⟩
  have cl2 : Cells c.L l2 (some (.ref bx)) v2 (some (.int x.1 t)) (some (.ref f.o)) := hl2 ▸ cl1.set3 ho'
  have F0 : FunL l1 := ⟨fun p hp q hq => F1.eq p (.tail _ hp) q (.tail _ hq)⟩
  have sn : SubN l1 l2 := hl2 ▸ sub_cell F0 ho3 hd3
  have sub2 : ∀ p ∈ lb, p ∈ l2 := fun p hp => sn p (sub1 p hp) (nc p hp)
  have off2 : ∀ p ∈ l2, p.1 ≠ I := fun p hp => by
    rw [hl2] at hp
    rcases List.mem_cons.mp hp with rfl | hp
    · exact hI3.symm
    · exact off p (mem_without.mp hp).1
  have hd2 : (dd, lstO dvs kd) ∈ l2 := sn _ hd1 nc_lst
  have hv2 : Two (DataV l2) dvs (dataL (rows.take i)) := hv1.mono fun _ _ h => DataV.nc (SubN.two sn) h
  refine Go.sub (l' := (I, o) :: l2) ?_ (fun p hp => ?_)
  · have hlt : i < rows.length := (List.getElem?_eq_some_iff.mp hx).1
    have sub3 : ∀ p ∈ lb, p ∈ (I, o) :: l2 := fun p hp => .tail _ (sub2 p hp)
    have nm2 : Nms (upd m1 (Str.ofString "statement") (.ref a)) pd an dd := ⟨(if_neg (by decide +kernel)).trans nm1.pd, (if_neg (by decide +kernel)).trans nm1.an, (if_neg (by decide +kernel)).trans nm1.dd⟩
    have key : (∃ s v', x.2 = .leaf v' (.data s)) ∨ ((x.2.word == Str.ofString "DATA") = false ∧ dataL [x] = []) := by
      obtain ⟨ln, rk⟩ := x
      cases rk with
      | leaf v' lf => cases lf <;> first | exact .inl ⟨_, _, rfl⟩ | exact .inr ⟨by simp only [RK.word, Lf.word]; decide +kernel, rfl⟩
      | ifnot _ _ => exact .inr ⟨by simp only [RK.word]; decide +kernel, rfl⟩
      | jump _ => exact .inr ⟨by simp only [RK.word]; decide +kernel, rfl⟩
    rcases key with ⟨s, v', hxs⟩ | ⟨h1, h2⟩
    · rw [hxs] at ha htl
      obtain ⟨_, bb, nn, k2, k3, rfl, hbb⟩ := htl
      refine go_if_t (Ts.as (ts_eqs (ps_tup (k := 0) (sub3 _ ha) rfl (by decide) (pu_name W (if_pos rfl)) pu_int) pu_str) rfl) fun Q2 Ct => ?_
      obtain ⟨o3', hc3, hd3'⟩ := cl2.c3
      refine go_assign W (ev_addL (P := fun v l' => ∃ D ys nw, v = .ref D ∧ (D, lstO (dvs ++ ys) 0) ∈ l' ∧ D ≠ I ∧ (∀ p ∈ (I, o) :: l2, p ∈ l') ∧ (∀ p ∈ nw, p ∈ l') ∧ (∀ p ∈ nw, p.1 ≠ I) ∧ Two (DataV nw) ys [(x.1, s), (x.1, Str.ofString "b")]) (D1 := dd) (xs := dvs) (n1 := kd) (pu_name W nm2.dd) (data_comp C (.tail _ hc3) hd3' (pu_tup (k := 1) (sub3 _ ha) rfl (by decide) (pu_name W (if_pos rfl)) pu_int) (sub3 _ hbb) (by intro _; rfl)) ?_) ?_
      · rintro _ l' ⟨D, ys, kk9, nw, rfl, hD, hs9, nws, new, hys⟩
        have z1 := hv2.length
        have z2 := dataL_len (rows.take i)
        have z3 := hys.length
        rw [List.length_take] at z2
        refine ⟨D, ys, kk9, rfl, hs9 _ (.tail _ hd2), hD, by simp only [List.length_cons, List.length_nil] at z3; omega, fun D2 hD2 => ⟨D2, ys, nw, rfl, .head _, fun e => ?_, fun p h => .tail _ (hs9 p h), fun p h => .tail _ (nws p h), fun p h => new p h (I, o) (.head _), hys⟩⟩
        exact Nat.lt_irrefl I (by have := allLt_iff.mp hD2 _ (hs9 _ (.head _)); rwa [e] at this)
      · rintro _ l' ⟨D, ys, nw, rfl, hD, hDI, hs9, nws, newI, hys⟩
        have up : ∀ p ∈ l2, p ∈ without I l' := fun p hp => mem_without.mpr ⟨hs9 p (.tail _ hp), off2 p hp⟩
        refine go_nil (Ct.nx _ _ (turnE T9 (l' := without I l') (fun p hp => (mem_without.mp hp).2) (.mk (i + 1) D (dvs ++ ys) 0 v2 _ hri (fun p hp => up p (sub2 p hp)) (cl2.sub up) ⟨(if_neg (by decide +kernel)).trans nm2.pd, (if_neg (by decide +kernel)).trans nm2.an, if_pos rfl⟩ (mem_without.mpr ⟨hD, hDI⟩) ?_) fun p hp => ?_))
        · rw [dataL_snoc hx]
          have e9 : dataL [x] = [(x.1, s), (x.1, Str.ofString "b")] := by
            obtain ⟨ln, rk⟩ := x
            dsimp only at hxs
            subst hxs
            rfl
          rw [e9]
          exact (hv2.mono fun _ _ h => DataV.mono up h).append (hys.mono fun _ _ h => DataV.mono (fun p hp => mem_without.mpr ⟨nws p hp, newI p hp⟩) h)
        · exact (List.mem_cons.mp hp).elim (fun e => e ▸ hs9 _ (.head _)) fun hp => (mem_without.mp hp).1
    · refine go_skip (Ts.as (ts_eqs (ps_tup (k := 0) (sub3 _ ha) rfl (by decide) (pu_name W (if_pos rfl)) pu_int) pu_str) h1) (turnE T9 off2 (.mk (i + 1) dd dvs kd v2 _ hri sub2 cl2 nm2 hd2 (by rw [dataL_snoc hx, h2, List.append_nil]; exact hv2)) fun p hp => hp)
  · rcases List.mem_cons.mp hp with rfl | hp
    · exact .tail _ (mem_without.mpr ⟨.head _, hI3⟩)
    · rw [hl2] at hp
      rcases List.mem_cons.mp hp with rfl | hp
      · exact .head _
      · exact .tail _ (mem_without.mpr ⟨.tail _ (mem_without.mp hp).1, (mem_without.mp hp).2⟩)
end
section
variable {prog : Program} {w : World} {c : Wc prog w} {m : Nm} {l l' lb : Led} {rest : List Stmt} {Q : Flow → Shared → Prop}
theorem lines_comp {pd : Addr} {ys : List Value} {k9 : Nat} {ts : List (Int × T)} {p1 p2 p3 p4 p5 p6 : Pos} (C : LawC c) (hm : m (Str.ofString "parsed") = some (.ref pd)) (hp : (pd, lstO ys k9) ∈ l) (hl : Two (LineAt l) ys ts) (hz : ts.length < 1000) :
    Ev c m l (.ListComp (.Name (Str.ofString "line") p1) [⟨.Tuple [.Name (Str.ofString "line") p2, .Name (Str.ofString "statements") p3] 0 p4, .Name (Str.ofString "parsed") p5, [], 0⟩] { kind := .function, names := [(Str.ofString ".0", .local), (Str.ofString "line", .local), (Str.ofString "statements", .local)], isGenerator := false, isCoroutine := false } p6)
      (fun v l' => ∃ D zs k, v = .ref D ∧ l' = (D, lstO zs k) :: l ∧ Two (fun v x => IntV x v) zs (ts.map (·.1))) := by
  have W := C.W
  have hlen := hl.length
  refine Tr.mono (ev_comp (n := ys.length) (J := fun i zs l1 => l1 = l ∧ Two (fun v x => IntV x v) zs ((ts.map (·.1)).take i)) (cl := []) ?_ ?_ ?_ ?_ (src_list (items := ys) (k9 := k9) (pu_name W hm) hp) (by omega) ⟨rfl, .nil⟩ hp ?_) ?_
  · rw [W.he]; exact rfl
  · decide
  · exact rfl
  · decide
  · rintro i v ex own l1 zs C' D hi ⟨rfl, hzs⟩ hlo ⟨rfl, hv⟩ offC offD apO ownD
    obtain ⟨v', x, hv', hx, b, t, q, xs, nq, rfl, hb, hq, hR⟩ := two_get hl (i := i) (by omega)
    rw [hv] at hv'
    cases hv'
    refine ⟨fun m2 => m2 (Str.ofString "line") = some (.int x.1 t) ∧ m2 (Str.ofString "statements") = some (.ref q), cas_pair rfl rfl rfl (by decide +kernel) (List.mem_append_right _ (List.mem_append_right _ (.tail _ hb))), ?_⟩
    rintro oC' m2 hN ⟨h2, _⟩
    refine Tr.mono (pc_own W rfl (.head _) hN h2) ?_
    rintro y _ ⟨rfl, rfl⟩
    refine ⟨_, fun p h => h, fun p h => ⟨offC p (List.mem_append_right _ (List.mem_append_right _ (.tail _ h))), offD p h⟩, apO, hlo, rfl, ?_⟩
    have e9 : (ts.map (·.1))[i]? = some x.1 := by rw [List.getElem?_map, hx]; rfl
    rw [List.take_add_one, e9]
    exact hzs.append (.cons ⟨t, rfl⟩ .nil)
  · rintro v l' ⟨D, zs, l1, rfl, rfl, ⟨rfl, hzs⟩, off⟩
    refine ⟨D, zs, _, rfl, rfl, ?_⟩
    rw [List.take_of_length_le (by rw [List.length_map]; omega)] at hzs
    exact hzs
theorem compL_keys {r0 r : List (Int × RK)} {p0 p : List (Int × Nat)} {ts : List (Int × T)} (h : CompL r0 p0 ts r p) (hn : (p0.map (·.1) ++ ts.map (·.1)).Nodup) : p.map (·.1) = p0.map (·.1) ++ ts.map (·.1) := by
  have app : ∀ (pl : List (Int × Nat)) (k : Int) (x : Nat), k ∉ pl.map (·.1) → (putA pl k x).map (·.1) = pl.map (·.1) ++ [k] := by
    intro pl k x hk
    unfold putA
    rw [if_neg]
    · rw [List.map_append]; rfl
    · intro e
      obtain ⟨p, hp, hpk⟩ := List.any_eq_true.mp e
      exact hk (List.mem_map.mpr ⟨p, hp, by simpa using hpk⟩)
  induction h with
  | nil => simp
  | @some rows pl ln t ts r p _ _ ih =>
    have hk : ln ∉ pl.map (·.1) := fun hm => by
      rw [List.nodup_append] at hn
      exact hn.2.2 _ hm _ (List.mem_map.mpr ⟨(ln, t), .head _, rfl⟩) rfl
    have e := app pl ln rows.length hk
    rw [e] at ih
    rw [ih (by simpa using hn)]
    simp
  | @none rows pl ln t ts r p v _ _ ih =>
    have hk : ln ∉ pl.map (·.1) := fun hm => by
      rw [List.nodup_append] at hn
      exact hn.2.2 _ hm _ (List.mem_map.mpr ⟨(ln, t), .head _, rfl⟩) rfl
    have e := app pl ln rows.length hk
    rw [e] at ih
    rw [ih (by simpa using hn)]
    simp
theorem two_keys {α : Type} {R : Value → α → Prop} {kvs : List (Int × Value)} {ls : List (Int × α)} (h : Two (KV R) kvs ls) : kvs.map (·.1) = ls.map (·.1) := by
  induction h with
  | nil => rfl
  | cons h _ ih => rw [List.map_cons, List.map_cons, ih, h.1]
theorem data_eqs {lq : Led} {a b : List Value} {xs : List (Int × Str)} (ha : Two (DataV lq) a xs) (hb : Two (DataV lq) b xs) : ∀ (j : Nat) x y, a[j]? = some x → b[j]? = some y → EqsL lq 1 x y := fun j x y h1 h2 => by
  have hj : j < xs.length := by rw [← ha.length]; exact (List.getElem?_eq_some_iff.mp h1).1
  obtain ⟨x', z, e1, e2, tu, t1, k1, rfl, m1⟩ := two_get ha hj
  obtain ⟨y', z', e3, e4, tv, t2, k2, rfl, m2⟩ := two_get hb hj
  rw [h1] at e1
  rw [h2] at e3
  rw [e2] at e4
  cases e1
  cases e3
  cases e4
  refine .tup m1 m2 rfl fun j a b h1 h2 => ?_
  match j, h1, h2 with
  | 0, h1, h2 => cases h1; cases h2; exact .int
  | 1, h1, h2 => cases h1; cases h2; exact .str
  | (_ + 2), h1, _ => cases h1
theorem vals_int (ks : List Int) : ∀ (i : Nat) (t : Nat → Tok), Two (fun v x => IntV x v) (lks_vals ks i t) ks := by
  induction ks with
  | nil => exact fun _ _ => .nil
  | cons k r ih => exact fun i t => .cons ⟨_, rfl⟩ (ih (i + 1) t)
theorem ints_eqs {lq : Led} {n : Nat} {a b : List Value} {xs : List Int} (ha : Two (fun v x => IntV x v) a xs) (hb : Two (fun v x => IntV x v) b xs) : ∀ (j : Nat) x y, a[j]? = some x → b[j]? = some y → EqsL lq n x y := fun j x y h1 h2 => by
  have hj : j < xs.length := by rw [← ha.length]; exact (List.getElem?_eq_some_iff.mp h1).1
  obtain ⟨x', z, e1, e2, t1, rfl⟩ := two_get ha hj
  obtain ⟨y', z', e3, e4, t2, rfl⟩ := two_get hb hj
  rw [h1] at e1
  rw [h2] at e3
  rw [e2] at e4
  cases e1
  cases e3
  cases e4
  exact .int
theorem fact_lines : ∀ P, nsIn (Mine.K P) mainGlobals (Str.ofString "line_numbers") = some (some (.ref 149)) := fun P => by k_is
theorem fact_lines2 : ∀ P, keepIn (Mine.K P) (.ref 149) = true := fun P => by k_is
set_option maxRecDepth 100000 in
theorem law_7 {f : FA} {dv dvs ys : List Value} {rows : List (Int × RK)} {oPl : Obj} {kvPl : List (Int × Value)} {pd an dd : Addr} {nd kd k9 : Nat} {ts : List (Int × T)} {v1 v2 v3 : Option Value} {qual : Str} (C : LawC c) (sub : ∀ p ∈ lb, p ∈ l ∧ p.1 ≠ 191) (hf : FlatIn w.params f lb) (hdv : (f.data, lstO dv nd) ∈ lb) (hD1 : Two (DataV lb) dv (dataL rows))
    (hdd : (dd, lstO dvs kd) ∈ l) (hD2 : Two (DataV l) dvs (dataL rows)) (Di : DictIn prog w lb f.places oPl kvPl) (hk : kvPl.map (·.1) = ts.map (·.1)) (hasc : lks_asc (ts.map (·.1)) = true) (hne : kvPl ≠ []) (h64 : kvPl.length < 64) (h3 : valueAt kvPl 3 = none)
    (hpd : (pd, lstO ys k9) ∈ lb) (hys : Two (LineAt lb) ys ts) (hz : ts.length < 1000) (cl : Cells c.L l v1 v2 v3 (some (.ref f.o))) (nm : Nms m pd an dd) (TB : TabIn l qual []) (hq : c.cn ++ ".<locals>." ++ "<lambda>" = qual)
    (k : ∀ l' xs', KeepT l l' → TabIn l' qual xs' → Go c Q m l' rest) : Go c Q m l (lawSt7 :: rest) := by
  unfold lawSt7
  have W := C.W
  have hdp := C.dp
  have hun := C.un
  obtain ⟨o4, hc4, hd4⟩ := cl.c4
  have sl : ∀ p ∈ lb, p ∈ l := fun p h => (sub p h).1
  refine Go.fn fun FL => ?_
  have h191 : c.L + 4 ≠ 191 := fun e => not_cell FL hc4 hd4 TB.hm (fun v h => nomatch h) e.symm
  refine go_skipP (P := fun l' => KeepT l l' ∧ ∃ xs', TabIn l' qual xs') (tsp_or_f (P1 := fun l' => l' = l) (ts_ne (n := 2) (P2 := fun a b l' => a = .ref f.data ∧ b = .ref dd ∧ l' = l) (pu_data W.toOk (hf.mono sl) (pu_cell W (by rw [C.cl]; exact rfl) hc4 hd4)) ?_ (by omega) ?_) ?_) ?_
  · rintro _ _ ⟨rfl, rfl⟩
    exact (pu_name W nm.dd).mono fun v l' h => ⟨rfl, h.1, h.2⟩
  · rintro _ _ _ ⟨rfl, rfl, rfl⟩
    have hD3 := hD1.mono fun _ _ h => DataV.mono sl h
    exact ⟨fun p h => h, ne_lists (n := 1) (sl _ hdv) hdd (by rw [hD1.length, hD2.length]) (data_eqs hD3 hD2)⟩
  · rintro l1 e1
    rw [e1]
    refine tsp_or_f (P1 := fun l' => l' = l) (ts_ne (n := 1) (P1 := fun v l' => ∃ D2 t n, AllLt D2 l ∧ v = .ref D2 ∧ l' = (D2, lstO (lks_vals (kvPl.map (·.1)) 0 t) n) :: l) (P2 := fun a b l' => ∃ D2 t n D zs kz, a = .ref D2 ∧ b = .ref D ∧ l' = (D, lstO zs kz) :: (D2, lstO (lks_vals (kvPl.map (·.1)) 0 t) n) :: l ∧ Two (fun v x => IntV x v) zs (ts.map (·.1))) (ev_call W fact_lines fact_lines2 (C := fun vs l' => vs = [.ref f.o] ∧ l' = l) (ar_cons (pu_cell W (by rw [C.cl]; exact rfl) hc4 hd4) ?_) ?_) ?_ (by omega) ?_) ?_
    · rintro _ _ ⟨rfl, rfl⟩
      exact ar_nil ⟨rfl, rfl⟩
    · rintro _ _ ⟨rfl, rfl⟩
      exact lines_call W.toOk (hf.mono sl) (Di.mono sl) (by rw [hk]; exact hasc) hne h64 (by omega)
    · rintro _ _ ⟨D2, t, n, hA, rfl, rfl⟩
      exact (lines_comp C nm.pd (.tail _ (sl _ hpd)) (hys.mono fun _ _ h => h.mono fun p hp => .tail _ (sl p hp)) hz).mono fun v l' ⟨D, zs, kz, h1, h2, h3⟩ => ⟨D2, t, n, D, zs, kz, rfl, h1, h2, h3⟩
    · rintro _ _ _ ⟨D2, t, n, D, zs, kz, rfl, rfl, rfl, hzs⟩
      refine ⟨fun p h => .tail _ (.tail _ h), ne_lists (n := 0) (.tail _ (.head _)) (.head _) ?_ (ints_eqs (vals_int _ 0 t) (hk ▸ hzs))⟩
      rw [(vals_int (kvPl.map (·.1)) 0 t).length, hzs.length, hk]
    · rintro l2 e2
      rw [e2]
      refine tsp_or_f (P1 := fun l' => KeepT l l' ∧ ∃ xs', TabIn l' qual xs') (ts_neP (n := 0) (P1 := ToldR l [] qual (StV (Str.ofString "UL"))) (P2 := fun a b l' => ToldR l [] qual (StV (Str.ofString "UL")) a l' ∧ StV (Str.ofString "UL") b) ?_ ?_ (by omega) ?_) fun l' h => tsp_or_nil h
      · refine ev_toldX (clos := [(Str.ofString "flat", c.L + 4)]) W C.hd C.ccd TB hq (by omega) C.outer C.XB C.TB ?_ (by rw [C.cl, W.hs]; exact rfl) rfl rfl rfl rfl (by decide)
        intro c' l' hk' W' g1 g2 g3
        have up : ∀ p ∈ lb, p ∈ l' := fun p h => hk'.sub p (sl p h) (sub p h).2
        refine rx_call W' fact_place fact_place2 (C := fun vs l2 => ∃ t, vs = [.ref f.o, .int 3 t] ∧ l2 = l') (ar_cons (pu_free W' (by rw [g1]; exact rfl) (hk'.sub _ hc4 h191) hd4) ?_) ?_
        · rintro _ _ ⟨rfl, rfl⟩
          refine ar_cons pu_int ?_
          rintro _ _ ⟨⟨t, rfl⟩, rfl⟩
          exact ar_nil ⟨t, rfl, rfl⟩
        · rintro _ _ ⟨t, rfl, rfl⟩
          exact ⟨rfl, rx_place C.PO W'.toOk (hf.mono up) (Di.mono up) h3 (by omega) (by omega)⟩
      · intro v1 l' h
        exact (pu_str).mono fun v l'' h2 => ⟨h2.2 ▸ h, h2.1⟩
      · rintro _ _ l' ⟨⟨xs', ⟨t1, rfl⟩, ht, hk9, _⟩, t2, rfl⟩
        exact ⟨⟨hk9, xs', ht⟩, fun {prog w c m h tk A} H hu => by
          have := PySem.SeqAt.RcNeAt.str_str (A := A) (s := c.st h tk) (Str.ofString "UL") t1 (Str.ofString "UL") t2
          rw [beq_self_eq_true] at this
          exact this⟩
  · rintro l' ⟨h1, xs', h2⟩
    exact k l' xs' h1 h2
end
theorem fact_bel : ∀ P, nsIn (Mine.K P) mainGlobals (Str.ofString "_law_belongs") = some (some (.ref 182)) := fun P => by k_is
theorem fact_bel2 : ∀ P, keepIn (Mine.K P) (.ref 182) = true := fun P => by k_is
section
variable {prog : Program} {w : World} {c : Wc prog w} {m : Nm} {l l' lb : Led} {rest : List Stmt} {Q : Flow → Shared → Prop}
set_option maxRecDepth 100000 in
theorem law_8 {f : FA} {its : List Value} {n : Nat} {rows : List (Int × RK)} {v1 v2 v3 : Option Value} (C : LawC c) (hf : FlatIn w.params f l) (hr : (f.rows, lstO its n) ∈ l) (hR : RowsL l its rows) (hz : rows.length < 300) (hnx : ∀ ln v k, (ln, RK.leaf v (.next k)) ∈ rows → k < 1000) (cl : Cells c.L l v1 v2 v3 (some (.ref f.o)))
    (k : ∀ dP dL l1 l9 B l', (∀ p ∈ l1 ++ l, p ∈ l') → BSt prog w dP dL [dP, dL] l9 B (bout 0 ([], []) rows).1 (bout 0 ([], []) rows).2 l1 → (dP == sysModules) = false → (dL == sysModules) = false → Go c Q (upd (upd m (Str.ofString "pairs") (.ref dP)) (Str.ofString "loops") (.ref dL)) l' rest) : Go c Q m l (lawSt8 :: rest) := by
  unfold lawSt8
  have W := C.W
  have hdp := C.dp
  have hun := C.un
  obtain ⟨o4, hc4, hd4⟩ := cl.c4
  refine go_two W (ev_call W fact_bel fact_bel2 (C := fun vs l' => vs = [.ref f.o] ∧ l' = l) (P := fun v l' => ∃ T dP dL l1 l9 B, v = .ref T ∧ (∀ p ∈ (T, tupO [.ref dP, .ref dL]) :: (l1 ++ l), p ∈ l') ∧ BSt prog w dP dL [dP, dL] l9 B (bout 0 ([], []) rows).1 (bout 0 ([], []) rows).2 l1 ∧ (dP == sysModules) = false ∧ (dL == sysModules) = false) (ar_cons (pu_cell W (by rw [C.cl]; exact rfl) hc4 hd4) ?_) ?_) ?_
  · rintro _ _ ⟨rfl, rfl⟩
    exact ar_nil ⟨rfl, rfl⟩
  · rintro _ _ ⟨rfl, rfl⟩
    exact bel_call W.toOk hf hr hR hz hnx (by omega) (by omega)
  · rintro _ l' ⟨T, dP, dL, l1, l9, B, rfl, hs, hB, s1, s2⟩
    exact ⟨T, rfl, gt_pair W (hs _ (.head _)) (k dP dL l1 l9 B l' (fun p hp => hs p (.tail _ hp)) hB s1 s2)⟩
end
section
variable {prog : Program} {w : World} {c : Wc prog w} {m : Nm} {l l' lb : Led} {e1 e2 : Expr} {pos : Pos} {n : Nat} {K : Type} [DecidableEq K] {knd : KeyKind prog w K} {ka kb : List (K × Value)} {a b : Addr} {oa ob : Obj} {h : Heap} {tk : Tok} {A : Around}
theorem hits_of (H : At c m l h) (hu : A.units + n < cLine) (hk : ∀ k v, (k, v) ∈ ka → ∃ y, valueAt kb k = some y ∧ EqsL l n v y) : KeqHits A (c.st h tk) kb ka true := by
  induction ka with
  | nil => exact .nil
  | cons p r ih =>
    obtain ⟨k, v⟩ := p
    obtain ⟨y, h1, h2⟩ := hk k v (.head _)
    have := KeqHits.hit (A := A) (s := c.st h tk) h1 (h2.at H hu) (ih fun k v hm => hk k v (.tail _ hm))
    rwa [Bool.and_self] at this
theorem ts_neD (h1 : Pu c m l e1 (Eqv (.ref a))) (h2 : Pu c m l e2 (Eqv (.ref b))) (pa : (a, oa) ∈ l) (pb : (b, ob) ∈ l) (da : oa.IsDictOf knd ka) (db : ob.IsDictOf knd kb) (la : (a == sysModules) = false) (lb : (b == sysModules) = false) (hl : ka.length = kb.length) (hu : c.un + n + 1 < cLine)
    (hk : ∀ k v, (k, v) ∈ ka → ∃ y, valueAt kb k = some y ∧ EqsL l n v y) (hb : behindInMarks .NotEq e2 = false := by rfl) : Ts c m l (.Compare e1 [.NotEq] [e2] pos) false := ts_cmp h1 h2 (fun {v1 v2 Q E h tk} r1 r2 H q => by
  cases r1
  cases r2
  have hu2 : c.A.in1.units + n < cLine := by have := units_in1 (A := c.A); show _ < _; have e : c.A.units = c.un := rfl; omega
  exact kne_pairs (s := c.st h tk) H.N pa pb da db la lb hl (by show c.un < _; omega) (hits_of H hu2 hk) (q _)) hb
end
section
variable {K α : Type} [DecidableEq K] {R R' : Value → α → Prop} {ka kb : List (K × Value)} {la lb : List (K × α)} {l : Led} {n : Nat}
theorem two_memL {α' β : Type} {S : α' → β → Prop} {as : List α'} {bs : List β} (h : Two S as bs) {a : α'} (ha : a ∈ as) : ∃ b, b ∈ bs ∧ S a b := by
  induction h with
  | nil => cases ha
  | cons h _ ih =>
    rcases List.mem_cons.mp ha with rfl | ha
    · exact ⟨_, .head _, h⟩
    · obtain ⟨b, h1, h2⟩ := ih ha
      exact ⟨b, .tail _ h1, h2⟩
theorem same_hits (ha : Two (KV R) ka la) (hb : Two (KV R') kb lb) (S : SameMap la lb) (he : ∀ v y x, R v x → R' y x → EqsL l n v y) : ∀ k v, (k, v) ∈ ka → ∃ y, valueAt kb k = some y ∧ EqsL l n v y := fun k v hm => by
  obtain ⟨⟨k', x⟩, h1, h2, h3⟩ := two_memL ha hm
  dsimp only at h2 h3
  subst h2
  have h4 := S.hit _ _ h1
  rcases kv_at hb k with ⟨y, x', h5, h6, h7⟩ | ⟨_, h6⟩
  · rw [h4] at h6
    cases h6
    exact ⟨y, h5, he v y x h3 h7⟩
  · rw [h4] at h6
    cases h6
theorem same_len (ha : Two (KV R) ka la) (hb : Two (KV R') kb lb) (S : SameMap la lb) : ka.length = kb.length := by rw [ha.length, hb.length, S.len]
theorem pair_eqs {v y : Value} {x : Nat × Nat} (h1 : PairV l v x) (h2 : PairV l y x) : EqsL l 1 v y := by
  obtain ⟨tu, t1, t2, rfl, m1⟩ := h1
  obtain ⟨tv, t3, t4, rfl, m2⟩ := h2
  refine .tup m1 m2 rfl fun j a b h1 h2 => ?_
  match j, h1, h2 with
  | 0, h1, h2 => cases h1; cases h2; exact .int
  | 1, h1, h2 => cases h1; cases h2; exact .int
  | (_ + 2), h1, _ => cases h1
end
section
variable {prog : Program} {w : World} {c : Wc prog w} {m : Nm} {l : Led} {rest : List Stmt} {Q : Flow → Shared → Prop}
set_option maxRecDepth 100000 in
theorem law_9 {f : FA} {dP dL : Addr} {oP oL oP2 oL2 : Obj} {kP kL kP2 kL2 : List (Int × Value)} {gp bp : List (Int × Nat)} {gl bl : List (Int × (Nat × Nat))} {v1 v2 v3 : Option Value} (C : LawC c) (hf : FlatIn w.params f l) (cl : Cells c.L l v1 v2 v3 (some (.ref f.o))) (mP : m (Str.ofString "pairs") = some (.ref dP)) (mL : m (Str.ofString "loops") = some (.ref dL))
    (a1 : (f.pairs, oP) ∈ l) (a2 : oP.IsDictOf (PySem.intKind prog w) kP) (a3 : Two (KV NatV) kP gp) (a4 : (f.pairs == sysModules) = false) (b1 : (dP, oP2) ∈ l) (b2 : oP2.IsDictOf (PySem.intKind prog w) kP2) (b3 : Two (KV NatV) kP2 bp) (b4 : (dP == sysModules) = false) (S1 : SameMap gp bp)
    (c1 : (f.loops, oL) ∈ l) (c2 : oL.IsDictOf (PySem.intKind prog w) kL) (c3 : Two (KV (PairV l)) kL gl) (c4 : (f.loops == sysModules) = false) (d1 : (dL, oL2) ∈ l) (d2 : oL2.IsDictOf (PySem.intKind prog w) kL2) (d3 : Two (KV (PairV l)) kL2 bl) (d4 : (dL == sysModules) = false) (S2 : SameMap gl bl)
    (k : Go c Q m l rest) : Go c Q m l (lawSt9 :: rest) := by
  unfold lawSt9
  have W := C.W
  have hun := C.un
  obtain ⟨o4, hc4, hd4⟩ := cl.c4
  refine go_skip (ts_or_f (ts_neD (n := 0) (pu_pairs W.toOk hf (pu_cell W (by rw [C.cl]; exact rfl) hc4 hd4)) (pu_name W mP) a1 b1 a2 b2 a4 b4 (same_len a3 b3 S1) (by omega) (same_hits a3 b3 S1 fun v y x h1 h2 => ?_)) (ts_or_f (ts_neD (n := 1) (pu_loops W.toOk hf (pu_cell W (by rw [C.cl]; exact rfl) hc4 hd4)) (pu_name W mL) c1 d1 c2 d2 c4 d4 (same_len c3 d3 S2) (by omega) (same_hits c3 d3 S2 fun v y x h1 h2 => pair_eqs h1 h2)) ts_or_nil)) k
  obtain ⟨t1, rfl⟩ := h1
  obtain ⟨t2, rfl⟩ := h2
  exact .int
end
theorem fact_next : ∀ P, nsIn (Mine.K P) mainGlobals (Str.ofString "next_line") = some (some (.ref 128)) := fun P => by k_is
theorem fact_next2 : ∀ P, keepIn (Mine.K P) (.ref 128) = true := fun P => by k_is
theorem fact_line : ∀ P, nsIn (Mine.K P) mainGlobals (Str.ofString "line_of") = some (some (.ref 121)) := fun P => by k_is
theorem fact_line2 : ∀ P, keepIn (Mine.K P) (.ref 121) = true := fun P => by k_is
structure SrcX {prog : Program} {w : World} (c : Wc prog w) (m : Nm) (l : Led) (iter target : Expr) (X : Nat → Prop) (lo : Led → Prop) (Val : Nat → Value → Led → Prop) : Prop where
  run : ∀ h tk (Q : Value → Shared → Prop) (E : Value → Shared → Prop), At c m l h →
  (∀ n it own St h' tk', X n → Pull c m it target n lo St Val → St 0 own → Apart own l → At c m (own ++ l) h' → Q it (c.st h' tk')) → wpAny (model prog w) c.A (eval iter c.env) (fun x s => wpAny (model prog w) c.A (pyIter x) Q E s) E (c.st h tk)
section
variable {prog : Program} {w : World} {c : Wc prog w} {sc : Scope} {m : Nm} {l l' : Led} {e e1 e2 elt iter target : Expr} {R : Value → Prop} {pos pos' np ap : Pos} {x : Str} {D : Addr} {a : Int} {o : Obj} {kvs : List (Int × Value)} {X : Nat → Prop} {lo : Led → Prop} {Val : Nat → Value → Led → Prop} {J : Nat → List Value → Led → Prop} {scope : Scope} {cl : List (Str × Addr)} {ifs : List Expr} {f : FA} {its : List Value} {n row : Nat} {ln : Nat → Int} {rt : Tok}
theorem tr_next (W : c.Ok sc) (hf : FlatIn w.params f l) (hr : (f.rows, lstO its n) ∈ l) (hln : LinesAt l its ln) (hlt : row < its.length) (hsz : its.length < 100000) (hdp : c.dp + 20 < recursionLimit) (hun : c.un + 300 < cLine) :
    Tr c m l (call (.ref 128) [.ref f.o, .int (row : Int) rt]) (fun v l' => l' = l ∧ ∃ (r : Nat) (t : Tok), v = .int (r : Int) t ∧ row ≤ r ∧ r ≤ its.length ∧ ∀ j, row ≤ j → j < r → ln j = ln row) := .mk fun h tk Q E H k =>
  next_line_call ⟨W.B, H.F, W.X, W.T, by rw [W.hs]; exact W.hk⟩ H.N hf hr hln hlt hsz hdp hun fun r t h' tk' r1 r2 r3 F' N' => k _ l h' tk' ⟨rfl, r, t, rfl, r1, r2, r3⟩ ⟨F', N'⟩
theorem pu_get {pl : Sem Bool} (hx : Pu c m l (.Name x np) (Eqv (.ref D))) (hm : (D, o) ∈ l) (hd : o.IsDictOf (PySem.intKind prog w) kvs) (lo : (D == sysModules) = false) (h1 : Pu c m l e1 (IntV a)) (h2 : Pu c m l e2 R)
    (hs : starEach [e1, e2] c.env = (false, eval e1 c.env) :: starEach [e2] c.env := by rfl) (hs2 : starEach [e2] c.env = [(false, eval e2 c.env)] := by rfl)
    (hq : eval (.Call (.Attribute (.Name x np) (Str.ofString "get") ap) [e1, e2] [] pos') c.env = (do let ov ← eval (.Name x np) c.env; standAt ap.atName; let (f, first) ← holding [ov] (getMethod ov (Str.ofString "get") pl); callWith pos' f first (backTo pos' (starEach [e1, e2] c.env)) []) := by rfl) :
    Pu c m l (.Call (.Attribute (.Name x np) (Str.ofString "get") ap) [e1, e2] [] pos') (fun v => ∃ d, R d ∧ v = (valueAt kvs a).getD d) := .mk fun h0 tk Q E H kk => by
  refine MethodCall_ (pl := pl) (hx.run h0 tk _ E H ?_) hq
  rintro _ _ h' tk' ⟨rfl, rfl⟩ H'
  refine kdg_method (s := c.st h' tk') (knd := PySem.intKind prog w) H'.N hm hd (callWith_method1 (PyProof.Rows.args_cons (h1.run h' tk' _ E H' ?_) hs) hs (by rw [hs2]; rfl))
  rintro _ _ h2' tk2 ⟨⟨t, rfl⟩, rfl⟩ H2
  refine PyProof.Rows.args_cons (h2.run h2' tk2 _ E H2 ?_) hs2
  rintro d _ h3 tk3 ⟨hd3, rfl⟩ H3
  exact PyProof.Rows.args_nil (kdg_get2 (s := c.st h3 tk3) (knd := PySem.intKind prog w) H3.N hm hd lo (intKind_is _ _ _ _) _ rfl (kk _ _ _ _ ⟨⟨d, hd3, rfl⟩, rfl⟩ H3))
theorem src_rangeX (W : c.Okf sc) (h : Pu c m l e1 (IntV a)) (h2 : Ev c m l e2 (fun v l' => l' = l ∧ ∃ n : Nat, X n ∧ n < 1000000 ∧ IntV (a + (n : Int)) v)) (ha : 0 ≤ a) (ha2 : a < 1000000) (hl : sc.names.lookup (Str.ofString "range") = some .globalImplicit := by rfl) (hs : starEach [e1, e2] c.env = (false, eval e1 c.env) :: starEach [e2] c.env := by rfl) (hs2 : starEach [e2] c.env = [(false, eval e2 c.env)] := by rfl) :
    SrcX c m l (.Call (.Name (Str.ofString "range") np) [e1, e2] [] pos) target X (fun _ => True) (fun i v ex => ex = [] ∧ ∃ t, v = .int (a + (i : Int)) t) := .mk fun h0 tk Q E H kk => by
  refine PyProof.Rows.Call_ ((pu_bname W fact_range0 fact_range hl (by decide) (by decide)).run h0 tk _ E H ?_)
  rintro _ _ h1 tk1 ⟨rfl, rfl⟩ H1
  refine PyProof.Rows.callWith_type1 (PyProof.Rows.args_cons (h.run h1 tk1 _ E H1 ?_) hs) hs (by rw [hs2]; rfl)
  rintro _ _ h' tk' ⟨⟨t, rfl⟩, rfl⟩ H'
  refine PyProof.Rows.args_cons (h2.run h' tk' _ E H' ?_) hs2
  rintro _ _ h2 tk2 ⟨rfl, n, hX, hn, t2, rfl⟩ H2
  refine PyProof.Rows.args_nil (range2_rows H2.F H2.N fun h3 tk3 t1 u1 v1 hr F3 N3 _ => ?_)
  refine wpAny_pyIter_range hr (range_small (n := n) rfl ha ha2 hn) ?_
  rw [range_size (n := n) rfl]
  have e9 : rIt (a + ((0 : Nat) : Int)) ((n : Int) - ((0 : Nat) : Int)) = { cls := .type "range_iterator", dict := none, data := .fields #[rawInt a, rawInt (n : Int), rawInt 1], slots := #[] } := by simp [rIt]
  obtain ⟨H4, A4⟩ := at_push (o := rIt (a + ((0 : Nat) : Int)) ((n : Int) - ((0 : Nat) : Int))) rfl (⟨F3, N3⟩ : At c m _ h3)
  rw [e9] at H4 A4
  exact kk n (.ref h3.objs.size) [_] (StR h3.objs.size a n) _ _ hX pull_range ⟨by rw [e9], Nat.zero_le _⟩ A4 H4
theorem ev_compX (hclos : closureFor scope c.ev = pure cl) (hcell : ∀ y ∈ scope.names, y.2 ≠ .cell) (hkind : scope.kind = .function) (hnames : ∀ y ∈ scope.names, y.2 = .local → scope.names.lookup y.1 = some .local) (S : SrcX c m l iter target X lo Val) (hn : ∀ n, X n → n < 1000000) (hJ : J 0 [] l) (hlo : lo l)
    (turn : ∀ n, X n → CTurn c m scope cl target elt ifs n lo Val J) (hs : ∀ x, foldedSetIterable iter c.env x = pure x := by intro _; rfl) : Ev c m l (.ListComp elt [⟨target, iter, ifs, 0⟩] scope pos) (fun v l' => ∃ n D ys l1, X n ∧ v = .ref D ∧ l' = (D, lst9 ys) :: l1 ∧ J n ys l1 ∧ ∀ p ∈ l1, p.1 ≠ D) := .mk fun h tk Q E H kk => by
  rw [eval_ListComp]
  refine wpAny_comprehension_free (use := none) rfl hs hclos hkind hnames (S.run h tk _ E H fun n it own St h' tk' hX U h0 hA H' => comp_block hcell hkind U (hn n hX) h0 hJ hlo hA (turn n hX) H' ?_)
  intro D C h2 tk2 m' ys l1 hJ2 H2 offD hns hC0 hCL offC
  exact ⟨m', hns, fun h3 hs3 => kk _ _ h3 tk2 ⟨n, D, ys, l1, hX, rfl, rfl, hJ2, offD⟩ ⟨H2.F.change hs3 hCL hC0, fun p hp => ⟨hs3.extBut _ _ (offC p hp) (H2.N p hp).1, (H2.N p hp).2⟩⟩⟩
end
theorem CodeIn.nc {l l' : Led} {qual : Str} {c9 : Addr} (h : CodeIn l qual c9) (hs : SubN l l') : CodeIn l' qual c9 :=
  ⟨h.ne, let ⟨oc, vs, t, h1, h2, h3⟩ := h.out; ⟨oc, vs, t, hs _ h1 (fun v e => by dsimp only at e; rw [h2] at e; cases e), h2, h3⟩⟩
theorem TabIn.nc {l l' : Led} {qual : Str} {xs : List (Int × Int × Addr)} (h : TabIn l qual xs) (hs : SubN l l') : TabIn l' qual xs := ⟨hs _ h.hm (fun v e => nomatch e), fun q hq => (h.hc q hq).nc hs⟩
theorem CodeIn.addr {l : Led} {qual : Str} {c9 a : Addr} (h : CodeIn l qual c9) (ha : ∀ p ∈ l, p.1 ≠ a) : c9 ≠ a := let ⟨_, _, _, h1, _, _⟩ := h.out; ha _ h1
structure LC (L : Addr) (lb l : Led) (qual : Str) (xs : List (Int × Int × Addr)) (v1 v2 v3 v4 : Option Value) : Prop where
  sub : ∀ p ∈ lb, p ∈ l
  cells : Cells L l v1 v2 v3 v4
  tab : TabIn l qual xs
section
variable {L : Addr} {lb l l' : Led} {qual : Str} {xs xs' : List (Int × Int × Addr)} {v1 v2 v3 v4 v : Option Value} {o' : Obj}
theorem LC.mono (h : LC L lb l qual xs v1 v2 v3 v4) (hs : ∀ p ∈ l, p ∈ l') : LC L lb l' qual xs v1 v2 v3 v4 := ⟨fun p hp => hs p (h.sub p hp), h.cells.sub hs, ⟨hs _ h.tab.hm, fun q hq => (h.tab.hc q hq).sub fun p hp _ => hs p hp⟩⟩
theorem LC.set2 (h : LC L lb l qual xs v1 v2 v3 v4) (F : FunL l) (nc : ∀ p ∈ lb, NC p.2) (ho : o'.data = .cell v) : LC L lb ((L + 2, o') :: without (L + 2) l) qual xs v1 v v3 v4 := by
  obtain ⟨o, hm, hd⟩ := h.cells.c2
  have sn := sub_cell (o' := o') F hm hd
  exact ⟨fun p hp => sn p (h.sub p hp) (nc p hp), h.cells.set2 ho, h.tab.nc sn⟩
theorem LC.set3 (h : LC L lb l qual xs v1 v2 v3 v4) (F : FunL l) (nc : ∀ p ∈ lb, NC p.2) (ho : o'.data = .cell v) : LC L lb ((L + 3, o') :: without (L + 3) l) qual xs v1 v2 v v4 := by
  obtain ⟨o, hm, hd⟩ := h.cells.c3
  have sn := sub_cell (o' := o') F hm hd
  exact ⟨fun p hp => sn p (h.sub p hp) (nc p hp), h.cells.set3 ho, h.tab.nc sn⟩
theorem cell_191 {a : Addr} (F : FunL l) (hc : CellIn l a v) (ht : TabIn l qual xs) : a ≠ 191 := fun e => let ⟨_, h1, h2⟩ := hc; not_cell F h1 h2 ht.hm (fun v h => nomatch h) e.symm
theorem LC.keep (h : LC L lb l qual xs v1 v2 v3 v4) (F : FunL l) (hb : ∀ p ∈ lb, p.1 ≠ 191) (hk : KeepT l l') (ht : TabIn l' qual xs') : LC L lb l' qual xs' v1 v2 v3 v4 :=
  ⟨fun p hp => hk.sub p (h.sub p hp) (hb p hp), ⟨h.cells.c1.sub fun p hp e => hk.sub p hp (e ▸ cell_191 F h.cells.c1 h.tab), h.cells.c2.sub fun p hp e => hk.sub p hp (e ▸ cell_191 F h.cells.c2 h.tab), h.cells.c3.sub fun p hp e => hk.sub p hp (e ▸ cell_191 F h.cells.c3 h.tab), h.cells.c4.sub fun p hp e => hk.sub p hp (e ▸ cell_191 F h.cells.c4 h.tab)⟩, ht⟩
structure OffA (L : Addr) (lb : Led) (xs : List (Int × Int × Addr)) (a : Addr) : Prop where
  b : ∀ p ∈ lb, p.1 ≠ a
  c1 : L + 1 ≠ a
  c2 : L + 2 ≠ a
  c3 : L + 3 ≠ a
  c4 : L + 4 ≠ a
  t : 191 ≠ a
  q : ∀ q ∈ xs, q.2.2 ≠ a
theorem CellIn.addr {a b : Addr} (h : CellIn l a v) (hb : ∀ p ∈ l, p.1 ≠ b) : a ≠ b := let ⟨_, h1, _⟩ := h; hb _ h1
theorem LC.off {a : Addr} (h : LC L lb l qual xs v1 v2 v3 v4) (ha : ∀ p ∈ l, p.1 ≠ a) : OffA L lb xs a := ⟨fun p hp => ha p (h.sub p hp), h.cells.c1.addr ha, h.cells.c2.addr ha, h.cells.c3.addr ha, h.cells.c4.addr ha, ha _ h.tab.hm, fun q hq => (h.tab.hc q hq).addr ha⟩
theorem OffA.more {a : Addr} {o : Obj} (h : OffA L lb xs a) (hn : ∀ q ∈ xs', q ∈ xs ∨ ∀ p ∈ l, p.1 ≠ q.2.2) (ha : (a, o) ∈ l) : OffA L lb xs' a := ⟨h.b, h.c1, h.c2, h.c3, h.c4, h.t, fun q hq => (hn q hq).elim (h.q q) fun z => (z _ ha).symm⟩
theorem CellIn.wo {a b : Addr} (h : CellIn l a v) (hab : a ≠ b) : CellIn (without b l) a v := h.sub fun p hp e => mem_without.mpr ⟨hp, e ▸ hab⟩
theorem CodeIn.wo {b c9 : Addr} (h : CodeIn l qual c9) (hab : c9 ≠ b) : CodeIn (without b l) qual c9 := ⟨h.ne, let ⟨oc, vs, t, h1, h2, h3⟩ := h.out; ⟨oc, vs, t, mem_without.mpr ⟨h1, hab⟩, h2, h3⟩⟩
theorem LC.wo {a : Addr} (h : LC L lb l qual xs v1 v2 v3 v4) (O : OffA L lb xs a) : LC L lb (without a l) qual xs v1 v2 v3 v4 :=
  ⟨fun p hp => mem_without.mpr ⟨h.sub p hp, O.b p hp⟩, ⟨h.cells.c1.wo O.c1, h.cells.c2.wo O.c2, h.cells.c3.wo O.c3, h.cells.c4.wo O.c4⟩, ⟨mem_without.mpr ⟨h.tab.hm, O.t⟩, fun q hq => (h.tab.hc q hq).wo (O.q q hq)⟩⟩
end
noncomputable def rowLn (rows : List (Int × RK)) (j : Nat) : Int := (rows.getD j (0, .jump 0)).1
theorem rowLn_at {rows : List (Int × RK)} {j : Nat} {x : Int × RK} (h : rows[j]? = some x) : rowLn rows j = x.1 := by unfold rowLn; rw [List.getD_eq_getElem?_getD, h]; rfl
theorem lines_at {lq : Led} {its : List Value} {rows : List (Int × RK)} (h : RowsL lq its rows) : LinesAt lq its (rowLn rows) := fun i hi => by
  obtain ⟨v, x, hv, hx, b, a, t, kk, rs, rfl, hb, ha, htl⟩ := two_get h (i := i) (by rw [← h.length]; exact hi)
  exact ⟨b, t, [.ref a], (List.getElem?_eq_some_iff.mp hv).2, rowLn_at hx ▸ hb⟩
theorem ne_int {l : Led} {n : Nat} {a : Int} {t u : Tok} : NeL l n (.int a t) (.int a u) false := fun {prog w c m h tk A} H hu => by
  have := PySem.SeqAt.RcNeAt.int_int (A := A) (s := c.st h tk) a t a u
  rw [beq_self_eq_true] at this
  exact this
theorem ne_str {l : Led} {n : Nat} {a : Str} {t u : Tok} : NeL l n (.str a t) (.str a u) false := fun {prog w c m h tk A} H hu => by
  have := PySem.SeqAt.RcNeAt.str_str (A := A) (s := c.st h tk) a t a u
  rw [beq_self_eq_true] at this
  exact this
theorem ne_pair {l : Led} {v y : Value} {x : Nat × Nat} (h1 : PairV l v x) (h2 : PairV l y x) : NeL l 1 v y false := by
  obtain ⟨tu, t1, t2, rfl, m1⟩ := h1
  obtain ⟨tv, t3, t4, rfl, m2⟩ := h2
  refine ne_tups (n := 0) m1 m2 rfl fun j a b h1 h2 => ?_
  match j, h1, h2 with
  | 0, h1, h2 => cases h1; cases h2; exact .int
  | 1, h1, h2 => cases h1; cases h2; exact .int
  | (_ + 2), h1, _ => cases h1
section
variable {prog : Program} {w : World} {c : Wc prog w} {m : Nm} {l l' lb : Led} {rest : List Stmt} {Q : Flow → Shared → Prop}
set_option maxRecDepth 100000 in
theorem rows_comp {f : FA} {its : List Value} {n i : Nat} {rows : List (Int × RK)} {o2 o3 o4 : Obj} {ti t3 : Tok} {p1 p2 p3 p4 p5 p6 p7 p8 p9 p10 q1 q2 q3 q4 q5 q6 q7 q8 : Pos} (C : LawC c) (hf : FlatIn w.params f l) (hr : (f.rows, lstO its n) ∈ l) (hR : RowsL l its rows) (hz : rows.length < 300) (hi : i < rows.length)
    (h2 : (c.L + 2, o2) ∈ l) (d2 : o2.data = .cell (some (.int (i : Int) ti))) (h3 : (c.L + 3, o3) ∈ l) (d3 : o3.data = .cell (some (.int (rowLn rows i) t3))) (h4 : (c.L + 4, o4) ∈ l) (d4 : o4.data = .cell (some (.ref f.o))) :
    Ev c m l (.ListComp (.Name (Str.ofString "row") p1) [⟨.Name (Str.ofString "row") p2, .Call (.Name (Str.ofString "range") p3) [.Name (Str.ofString "at") p4, .Call (.Name (Str.ofString "next_line") p5) [.Name (Str.ofString "flat") p6, .Name (Str.ofString "at") p7] [] p8] [] p9, [.Compare (.Subscript (.Subscript (.Attribute (.Name (Str.ofString "flat") q1) (Str.ofString "rows") q2) (.Name (Str.ofString "row") q3) q4) (.Constant (.int 0) 0 q5) q6) [.NotEq] [.Name (Str.ofString "line") q7] q8], 0⟩] { kind := .function, names := [(Str.ofString ".0", .local), (Str.ofString "row", .local), (Str.ofString "flat", .free), (Str.ofString "line", .free)], isGenerator := false, isCoroutine := false } p10)
      (fun v l' => ∃ D, v = .ref D ∧ l' = (D, lstO [] 0) :: l) := by
  have W := C.W
  have hdp := C.dp
  have hun := C.un
  have hlen := hR.length
  refine Tr.mono (ev_compX (X := fun n => i + n ≤ its.length ∧ ∀ j, i ≤ j → j < i + n → rowLn rows j = rowLn rows i) (J := fun _ ys l1 => ys = [] ∧ l1 = l) (cl := [(Str.ofString "line", c.L + 3), (Str.ofString "flat", c.L + 4)]) ?_ ?_ ?_ ?_ (src_rangeX (a := (i : Int)) W (Pu.int (pu_cell W (by rw [C.cl]; exact rfl) h2 d2)) (ev_call W fact_next fact_next2 (C := fun vs l' => vs = [.ref f.o, .int (i : Int) ti] ∧ l' = l) (ar_cons (pu_cell W (by rw [C.cl]; exact rfl) h4 d4) ?_) ?_) (by omega) (by omega)) (fun n h => by omega) ⟨rfl, rfl⟩ trivial ?_) ?_
  · rw [W.he, C.cl, W.hs]; exact rfl
  · decide
  · exact rfl
  · decide
  · rintro _ _ ⟨rfl, rfl⟩
    refine ar_cons (pu_cell W (by rw [C.cl]; exact rfl) h2 d2) ?_
    rintro _ _ ⟨rfl, rfl⟩
    exact ar_nil ⟨rfl, rfl⟩
  · rintro _ _ ⟨rfl, rfl⟩
    refine (tr_next W.toOk hf hr (lines_at hR) (by omega) (by omega) (by omega) (by omega)).mono ?_
    rintro _ _ ⟨rfl, r, t, rfl, r1, r2, r3⟩
    exact ⟨rfl, r - i, ⟨by omega, fun j j1 j2 => r3 j j1 (by omega)⟩, by omega, t, by rw [show ((i : Int) + ((r - i : Nat) : Int)) = (r : Int) by omega]⟩
  · rintro n9 ⟨hn1, hn2⟩ i9 v ex own l1 ys C' D hi9 ⟨rfl, rfl⟩ _ ⟨rfl, ta, rfl⟩ offC offD apO ownD
    refine ⟨fun m2 => m2 (Str.ofString "row") = some (.int ((i : Int) + (i9 : Int)) ta), cas_name rfl rfl, ?_⟩
    rintro oC' m2 hN h9
    obtain ⟨L9, hL9⟩ : ∃ L9 : Led, L9 = (C', oC') :: (([] : Led) ++ (own ++ (D, lst9 []) :: l1)) := ⟨_, rfl⟩
    have sub9 : ∀ p ∈ l1, p ∈ L9 := fun p h => hL9 ▸ .tail _ (List.mem_append_right _ (List.mem_append_right _ (.tail _ h)))
    have hC9 : (C', oC') ∈ L9 := hL9 ▸ .head _
    rw [← hL9]
    obtain ⟨v', x, hv', hx, b, a, t, kk, rs, rfl, hb, ha, htl⟩ := two_get hR (i := i + i9) (by omega)
    have e9 := rowLn_at hx
    refine ⟨false, ts_int (a := x.1) (b := rowLn rows i) (op := .NotEq) ?_ (pi_tup (k := 0) (sub9 _ hb) rfl (by decide) (pu_item (a := (i : Int) + (i9 : Int)) (sub9 _ hr) (by omega) (by rw [show ((i : Int) + (i9 : Int)).toNat = i + i9 by omega]; exact hv') (by omega) (pu_rows (W.toOk.wenv _) (hf.mono sub9) (pc_cell W rfl rfl (sub9 _ h4) d4)) (Pu.int (pc_own W rfl hC9 hN h9))) pu_int) (Pu.int (pc_cell W rfl rfl (sub9 _ h3) d3)), (fun h => nomatch h), fun _ => ⟨rfl, rfl⟩⟩
    show some _ = some _
    rw [← e9, hn2 (i + i9) (by omega) (by omega), bne_self_eq_false]
  · rintro v l' ⟨n9, D, ys, l1, _, rfl, rfl, ⟨rfl, rfl⟩, off⟩
    exact ⟨D, rfl, rfl⟩
theorem told_get {i : Nat} {ti : Tok} {o2 o4 : Obj} {fo fa : Addr} {fn code qual : Str} {e2 : Expr} {kvs : List (Int × Value)} {xs : List (Int × Int × Addr)} {scope : Scope} {p1 p2 p3 p4 p5 p6 p7 q4 : Pos} (C : LawC c) (TB : TabIn l qual xs) (hq : c.cn ++ ".<locals>." ++ "<lambda>" = qual) (F : FunL l)
    (h2 : (c.L + 2, o2) ∈ l) (d2 : o2.data = .cell (some (.int (i : Int) ti))) (h4 : (c.L + 4, o4) ∈ l) (d4 : o4.data = .cell (some (.ref fo)))
    (hscl : closureFor scope (envX c.cn c.cs c.L c.a c.ccd c.cl) = pure [(Str.ofString "flat", c.L + 4), (Str.ofString "at", c.L + 2)]) (hco : scope.isCoroutine = false) (hgen : scope.isGenerator = false) (hk : scope.kind = .function) (hcell : ∀ x ∈ scope.names, x.2 ≠ .cell) (n1 : scope.names.lookup (Str.ofString "at") = some .free) (n2 : scope.names.lookup (Str.ofString "flat") = some .free) (n3 : scope.names.lookup fn = some .globalImplicit) (hx : (fn == ("__debug__" : Str)) = false)
    (hf : ∀ P, nsIn (Mine.K P) mainGlobals fn = some (some (.ref fa))) (hf2 : ∀ P, keepIn (Mine.K P) (.ref fa) = true) (get : ∀ l', KeepT l l' → Pu c m l' e2 (fun v => ∃ d, StV code d ∧ v = (valueAt kvs (i : Int)).getD d)) (hb : behindInMarks .NotEq e2 = false)
    (key : (∃ v v2, (∀ (c' : Wc prog w) l' sc' m', KeepT l l' → c'.Ok sc' → c'.dp = c.dp + 2 → c'.un = c.un + 6 → Tr c' m' l' (call (.ref fa) [.ref fo, .int (i : Int) ti]) (Is (Eqv v) l')) ∧ valueAt kvs (i : Int) = some v2 ∧ ∀ l', KeepT l l' → NeL l' 1 v v2 false) ∨ ((∀ (c' : Wc prog w) l' sc' m', KeepT l l' → c'.Ok sc' → c'.dp = c.dp + 2 → c'.un = c.un + 6 → EvX c' m' l' (call (.ref fa) [.ref fo, .int (i : Int) ti]) code) ∧ valueAt kvs (i : Int) = none)) :
    TsP c m l (.Compare (.Call (.Name (Str.ofString "_law_told") p1) [.Lambda ⟨[], [], none, [], [], none, []⟩ (.Call (.Name fn p2) [.Name (Str.ofString "flat") p3, .Name (Str.ofString "at") p4] [] p5) scope p6] [] p7) [.NotEq] [e2] q4) false
      (fun l' => ∃ xs', TabIn l' qual xs' ∧ KeepT l l' ∧ ∀ q ∈ xs', q ∈ xs ∨ ∀ p ∈ l, p.1 ≠ q.2.2) := by
  have W := C.W
  have hdp := C.dp
  have hun := C.un
  have a2 : c.L + 2 ≠ 191 := cell_191 F ⟨o2, h2, d2⟩ TB
  have a4 : c.L + 4 ≠ 191 := cell_191 F ⟨o4, h4, d4⟩ TB
  have args : ∀ (c' : Wc prog w) l', KeepT l l' → c'.Okf scope → c'.cl = [(Str.ofString "flat", c.L + 4), (Str.ofString "at", c.L + 2)] → ∀ m', Ar c' m' l' [.Name (Str.ofString "flat") p3, .Name (Str.ofString "at") p4] p5 (fun vs l2 => vs = [.ref fo, .int (i : Int) ti] ∧ l2 = l') := by
    intro c' l' hk' W' g1 m'
    refine ar_cons (pu_free W' (by rw [g1]; exact rfl) (hk'.sub _ h4 a4) d4 n2) ?_
    rintro _ _ ⟨rfl, rfl⟩
    refine ar_cons (pu_free W' (by rw [g1]; exact rfl) (hk'.sub _ h2 a2) d2 n1) ?_
    rintro _ _ ⟨rfl, rfl⟩
    exact ar_nil ⟨rfl, rfl⟩
  rcases key with ⟨v, v2, run, hv2, ne⟩ | ⟨run, hv2⟩
  · refine ts_neP (n := 1) (P1 := ToldR l xs qual (Eqv v)) (P2 := fun a b l' => ToldR l xs qual (Eqv v) a l' ∧ b = v2) (ev_told W C.hd C.ccd TB hq (by omega) (fun c' l' hk' W' g1 g2 g3 => ?_) hscl rfl hco hgen hk hcell) ?_ (by omega) ?_ hb
    · refine ev_call W' hf hf2 (C := fun vs l2 => vs = [.ref fo, .int (i : Int) ti] ∧ l2 = l') (args c' l' hk' W' g1 _) ?_ n3 hx
      rintro _ _ ⟨rfl, rfl⟩
      exact run c' _ _ _ hk' W'.toOk g2 g3
    · rintro v1 l' h
      obtain ⟨xs', hv, ht, hk', hn⟩ := h
      refine (get l' hk').mono ?_
      rintro b _ ⟨⟨d, _, rfl⟩, rfl⟩
      exact ⟨⟨xs', hv, ht, hk', hn⟩, by rw [hv2]; rfl⟩
    · rintro _ _ l' ⟨⟨xs', rfl, ht, hk', hn⟩, rfl⟩
      exact ⟨⟨xs', ht, hk', hn⟩, ne l' hk'⟩
  · refine ts_neP (n := 1) (P1 := ToldR l xs qual (StV code)) (P2 := fun a b l' => ToldR l xs qual (StV code) a l' ∧ StV code b) (ev_toldX W C.hd C.ccd TB hq (by omega) C.outer C.XB C.TB (fun c' l' hk' W' g1 g2 g3 => ?_) hscl rfl hco hgen hk hcell) ?_ (by omega) ?_ hb
    · refine rx_call W' hf hf2 (C := fun vs l2 => vs = [.ref fo, .int (i : Int) ti] ∧ l2 = l') (args c' l' hk' W' g1 _) ?_ n3 hx
      rintro _ _ ⟨rfl, rfl⟩
      exact ⟨rfl, run c' _ _ _ hk' W'.toOk g2 g3⟩
    · rintro v1 l' h
      obtain ⟨xs', hv, ht, hk', hn⟩ := h
      refine (get l' hk').mono ?_
      rintro b _ ⟨⟨d, ⟨t, rfl⟩, rfl⟩, rfl⟩
      exact ⟨⟨xs', hv, ht, hk', hn⟩, t, by rw [hv2]; rfl⟩
    · rintro _ _ l' ⟨⟨xs', ⟨t1, rfl⟩, ht, hk', hn⟩, t2, rfl⟩
      exact ⟨⟨xs', ht, hk', hn⟩, ne_str⟩
end
inductive T10 (L : Addr) (lb : Led) (qual : Str) (v1 v2 v3 v4 : Option Value) (e9 it9 : Addr) (oe oi : Obj) (l : Led) : Prop
  | mk (xs : List (Int × Int × Addr)) (h : LC L lb l qual xs v1 v2 v3 v4) (a : OffA L lb xs e9) (b : OffA L lb xs it9) (he : (e9, oe) ∈ l) (hi : (it9, oi) ∈ l)
inductive L10J (L bx fo dP dL : Addr) (lb : Led) (qual : Str) (its : List Value) (i : Nat) (r : List Value) (m1 : Nm) (l1 : Led) : Prop
  | mk (xs : List (Int × Int × Addr)) (v2 v3 : Option Value) (hr : r = its.drop i) (h : LC L lb l1 qual xs (some (.ref bx)) v2 v3 (some (.ref fo))) (mP : m1 (Str.ofString "pairs") = some (.ref dP)) (mL : m1 (Str.ofString "loops") = some (.ref dL))
section
variable {prog : Program} {w : World} {c : Wc prog w} {m : Nm} {l l' lb : Led} {rest : List Stmt} {Q : Flow → Shared → Prop}
theorem same_at {K α : Type} [DecidableEq K] {R R' : Value → α → Prop} {ka kb : List (K × Value)} {la lb : List (K × α)} (ha : Two (KV R) ka la) (hb : Two (KV R') kb lb) (S : SameMap la lb) (k : K) : (∃ v y x, valueAt ka k = some v ∧ valueAt kb k = some y ∧ R v x ∧ R' y x) ∨ (valueAt ka k = none ∧ valueAt kb k = none) := by
  rcases kv_at ha k with ⟨v, x, h1, h2, h3⟩ | ⟨h1, h2⟩
  · rcases kv_at hb k with ⟨y, x', g1, g2, g3⟩ | ⟨g1, g2⟩
    · rw [← S.eq k, h2] at g2
      cases g2
      exact .inl ⟨v, y, x, h1, g1, h3, g3⟩
    · rw [← S.eq k, h2] at g2
      cases g2
  · rcases kv_at hb k with ⟨y, x', g1, g2, g3⟩ | ⟨g1, g2⟩
    · rw [← S.eq k, h2] at g2
      cases g2
    · exact .inr ⟨h1, g1⟩
theorem T10.keep {L : Addr} {qual : Str} {v1 v2 v3 v4 : Option Value} {e9 it9 : Addr} {oe oi : Obj} {xs xs' : List (Int × Int × Addr)} (h : LC L lb l qual xs v1 v2 v3 v4) (a : OffA L lb xs e9) (b : OffA L lb xs it9) (he : (e9, oe) ∈ l) (hi : (it9, oi) ∈ l) (F : FunL l) (hb : ∀ p ∈ lb, p.1 ≠ 191) (ht : TabIn l' qual xs') (hk : KeepT l l') (hn : ∀ q ∈ xs', q ∈ xs ∨ ∀ p ∈ l, p.1 ≠ q.2.2) : T10 L lb qual v1 v2 v3 v4 e9 it9 oe oi l' :=
  .mk xs' (h.keep F hb hk ht) (a.more hn he) (b.more hn hi) (hk.sub _ he a.t.symm) (hk.sub _ hi b.t.symm)
set_option maxRecDepth 100000 in
theorem law_10 {f : FA} {its : List Value} {n : Nat} {rows : List (Int × RK)} {dP dL bx : Addr} {oP oL oP2 oL2 : Obj} {kP kL kP2 kL2 : List (Int × Value)} {gp bp : List (Int × Nat)} {gl bl : List (Int × (Nat × Nat))} {v2 v3 : Option Value} {qual : Str} {xs : List (Int × Int × Addr)} (C : LawC c) (nc : ∀ p ∈ lb, NC p.2) (nt : ∀ p ∈ lb, p.1 ≠ 191) (hf : FlatIn w.params f lb) (hr : (f.rows, lstO its n) ∈ lb) (hR : RowsL lb its rows) (hz : rows.length < 300)
    (a1 : DictIn prog w lb f.pairs oP kP) (a2 : Two (KV NatV) kP gp) (b1 : DictIn prog w lb dP oP2 kP2) (b2 : Two (KV NatV) kP2 bp) (S1 : SameMap gp bp) (c1 : DictIn prog w lb f.loops oL kL) (c2 : Two (KV (PairV lb)) kL gl) (d1 : DictIn prog w lb dL oL2 kL2) (d2 : Two (KV (PairV lb)) kL2 bl) (S2 : SameMap gl bl)
    (h : LC c.L lb l qual xs (some (.ref bx)) v2 v3 (some (.ref f.o))) (mP : m (Str.ofString "pairs") = some (.ref dP)) (mL : m (Str.ofString "loops") = some (.ref dL)) (hq : c.cn ++ ".<locals>." ++ "<lambda>" = qual)
    (k : ∀ m' l' xs' v2 v3, LC c.L lb l' qual xs' (some (.ref bx)) v2 v3 (some (.ref f.o)) → Go c Q m' l' rest) : Go c Q m l (lawSt10 :: rest) := by
  unfold lawSt10
  have W := C.W
  have hdp := C.dp
  have hun := C.un
  have hlen := hR.length
  obtain ⟨o4, hc4, hd4⟩ := h.cells.c4
  refine go_forE W (L10J c.L bx f.o dP dL lb qual its) (items := its) (k9 := n) (pu_rows W.toOk (hf.mono h.sub) (pu_cell W (by rw [C.cl]; exact rfl) hc4 hd4)) (h.sub _ hr) (.mk xs v2 v3 rfl h mP mL) (fun i r m1 l1 h => by obtain ⟨_, _, _, _, h, _, _⟩ := h; exact h.sub _ hr) ?_ (fun m1 l1 h => by obtain ⟨xs', v2, v3, _, h, _, _⟩ := h; exact k m1 l1 xs' v2 v3 h)
  clear mP mL h hc4 hd4 o4 xs v2 v3
  rintro i v r m1 l1 T9 tv e9 oe it9 oi Q' ⟨xs, v2, v3, hi, h1, mP, mL⟩ offe offi hT T0
  have hvi : its[i]? = some v := by
    have : (its.drop i)[0]? = some v := by rw [← hi]; rfl
    rw [List.getElem?_drop] at this
    exact this
  have hri : r = its.drop (i + 1) := by
    have := congrArg List.tail hi
    rw [List.tail_drop] at this
    exact this
  have hilt : i < rows.length := by have := (List.getElem?_eq_some_iff.mp hvi).1; omega
  obtain ⟨v', x, hv', hx, b, a, t, kk, rs, rfl, hb, ha, htl⟩ := two_get hR hilt
  rw [hvi] at hv'
  cases hv'
  have hln := rowLn_at hx
  have Oe := h1.off offe
  have Oi := h1.off offi
  refine GoT.fn fun F1 => ?_
  have h1' := h1.mono (l' := (T9, tupO [.int (i : Int) tv, .ref b]) :: (e9, oe) :: (it9, oi) :: l1) fun p hp => .tail _ (.tail _ (.tail _ hp))
  obtain ⟨o2, ho2, hd2⟩ := h1'.cells.c2
  refine gt_pairC2 W (.head _) (by rw [C.cl]; exact rfl) ho2 hd2 fun o2' ho2' => ?_
  have h2 := h1'.set2 F1 nc ho2'
  have e2 : (e9, oe) ∈ (c.L + 2, o2') :: without (c.L + 2) ((T9, tupO [.int (i : Int) tv, .ref b]) :: (e9, oe) :: (it9, oi) :: l1) := .tail _ (mem_without.mpr ⟨.tail _ (.head _), Oe.c2.symm⟩)
  have i2 : (it9, oi) ∈ (c.L + 2, o2') :: without (c.L + 2) ((T9, tupO [.int (i : Int) tv, .ref b]) :: (e9, oe) :: (it9, oi) :: l1) := .tail _ (mem_without.mpr ⟨.tail _ (.tail _ (.head _)), Oi.c2.symm⟩)
  generalize (c.L + 2, o2') :: without (c.L + 2) ((T9, tupO [.int (i : Int) tv, .ref b]) :: (e9, oe) :: (it9, oi) :: l1) = l2 at h2 e2 i2 ⊢
  clear ho2' ho2 hd2 h1' F1 h1 offe offi hT
  refine go_two W (pu_name W (if_pos rfl)) ?_
  rintro _ _ ⟨rfl, rfl⟩
  refine ⟨b, rfl, GoT.fn fun F2 => ?_⟩
  obtain ⟨o3, ho3, hd3⟩ := h2.cells.c3
  refine gt_pairC2 W (h2.sub _ hb) (by rw [C.cl]; exact rfl) ho3 hd3 fun o3' ho3' => ?_
  have h3 := h2.set3 F2 nc ho3'
  rename_i l2
  have e3 : (e9, oe) ∈ (c.L + 3, o3') :: without (c.L + 3) l2 := .tail _ (mem_without.mpr ⟨e2, Oe.c3.symm⟩)
  have i3 : (it9, oi) ∈ (c.L + 3, o3') :: without (c.L + 3) l2 := .tail _ (mem_without.mpr ⟨i2, Oi.c3.symm⟩)
  generalize (c.L + 3, o3') :: without (c.L + 3) l2 = l3 at h3 e3 i3 ⊢
  clear ho3' ho3 hd3 F2 h2 e2 i2
  have mS : upd (upd m1 (Str.ofString "pair") (.ref b)) (Str.ofString "statement") (.ref a) (Str.ofString "statement") = some (.ref a) := if_pos rfl
  have mP' : upd (upd m1 (Str.ofString "pair") (.ref b)) (Str.ofString "statement") (.ref a) (Str.ofString "pairs") = some (.ref dP) := (if_neg (by decide +kernel)).trans ((if_neg (by decide +kernel)).trans mP)
  have mL' : upd (upd m1 (Str.ofString "pair") (.ref b)) (Str.ofString "statement") (.ref a) (Str.ofString "loops") = some (.ref dL) := (if_neg (by decide +kernel)).trans ((if_neg (by decide +kernel)).trans mL)
  generalize upd (upd m1 (Str.ofString "pair") (.ref b)) (Str.ofString "statement") (.ref a) = m3 at mS mP' mL' ⊢
  obtain ⟨o2, ho2, hd2⟩ := h3.cells.c2
  obtain ⟨o3, ho3, hd3⟩ := h3.cells.c3
  obtain ⟨o4, ho4, hd4⟩ := h3.cells.c4
  refine go_skip (ts_or_f (ts_int (a := x.1) (b := x.1) (op := .NotEq) (by show some _ = some _; rw [bne_self_eq_false]) (Pu.int (k := t) (ev_call W fact_line fact_line2 (C := fun vs l' => vs = [.ref f.o, .int (i : Int) tv] ∧ l' = l3) (ar_cons (pu_cell W (by rw [C.cl]; exact rfl) ho4 hd4) ?_) ?_)) (Pu.int (pu_cell W (by rw [C.cl]; exact rfl) ho3 hd3))) (ts_or_f (ts_ne (n := 1) (P2 := fun a b l' => ∃ D D2, a = .ref D ∧ b = .ref D2 ∧ l' = (D2, lstO [] 0) :: (D, lstO [] 0) :: l3) (rows_comp C (hf.mono h3.sub) (h3.sub _ hr) (hR.mono h3.sub) hz hilt ho2 hd2 ho3 (hln ▸ hd3) ho4 hd4) ?_ (by omega) ?_) ts_or_nil)) ?_
  · rintro _ _ ⟨rfl, rfl⟩
    refine ar_cons (pu_cell W (by rw [C.cl]; exact rfl) ho2 hd2) ?_
    rintro _ _ ⟨rfl, rfl⟩
    exact ar_nil ⟨rfl, rfl⟩
  · rintro _ _ ⟨rfl, rfl⟩
    exact tr_line W.toOk (hf.mono h3.sub) (h3.sub _ hr) hvi (h3.sub _ hb) (by omega) (by omega) (by omega)
  · rintro _ _ ⟨D, rfl, rfl⟩
    exact ev_nil.mono fun v l' ⟨D2, h1, h2, _⟩ => ⟨D, D2, rfl, h1, h2⟩
  · rintro _ _ _ ⟨D, D2, rfl, rfl, rfl⟩
    exact ⟨fun p h => .tail _ (.tail _ h), ne_lists (n := 0) (.tail _ (.head _)) (.head _) rfl fun j a b h1 => by cases h1⟩
  refine Go.fn fun F3 => ?_
  refine go_skipP (P := T10 c.L lb qual (some (.ref bx)) (some (.int (i : Int) tv)) (some (.int x.1 t)) (some (.ref f.o)) e9 it9 oe oi) ?_ ?_
  · have tw : ∀ bb, (x.2.word == Str.ofString "WHILE") = bb → Ts c m3 l3 _ bb := fun bb hw => Ts.as (ts_eqs (pos := ⟨183, 11, 183, 34⟩) (ps_tup (pos' := ⟨183, 11, 183, 23⟩) (k := 0) (h3.sub _ ha) rfl (by decide) (pu_name (pos := ⟨183, 11, 183, 20⟩) W mS) (pu_int (pos := ⟨183, 21, 183, 22⟩) (k := 0))) (pu_str (x := Str.ofString "WHILE") (pos := ⟨183, 27, 183, 34⟩) (k := 0))) hw
    cases hw : (x.2.word == Str.ofString "WHILE") with
    | false => exact tsp_and_f ((tw _ hw).tsp (.mk xs h3 Oe Oi e3 i3))
    | true =>
      refine tsp_and_t (P1 := fun l' => l' = l3) ((tw _ hw).tsp rfl) fun l' e => ?_
      rw [e]
      refine tsp_and_f (Tr.mono (told_get C h3.tab hq F3 ho2 hd2 ho4 hd4 (by rw [C.cl, W.hs]; exact rfl) rfl rfl rfl (by decide) rfl rfl rfl (by decide) fact_eow fact_eow2 (kvs := kP2) (fun l' hk' => pu_get (pu_name W mP') (hk'.sub _ (h3.sub _ b1.hm) (nt _ b1.hm)) b1.hd b1.lo (Pu.int (pu_cell W (by rw [C.cl]; exact rfl) (hk'.sub _ ho2 (cell_191 F3 h3.cells.c2 h3.tab)) hd2)) pu_str) rfl ?_) ?_)
      · rcases same_at a2 b2 S1 (i : Int) with ⟨v, y, z, q1, q2, ⟨u1, rfl⟩, u2, rfl⟩ | ⟨q1, q2⟩
        · refine .inl ⟨_, _, fun c' l' sc' m' hk' W' g1 g2 => tr_eow (o := oP) W' ?_ ?_ q1 (by omega) (by omega), q2, fun l' _ => ne_int⟩
          · exact hf.mono fun p hp => hk'.sub _ (h3.sub _ hp) (nt _ hp)
          · exact a1.mono fun p hp => hk'.sub _ (h3.sub _ hp) (nt _ hp)
        · refine .inr ⟨fun c' l' sc' m' hk' W' g1 g2 => ?_, q2⟩
          have up : ∀ p ∈ lb, p ∈ l' := fun p hp => hk'.sub _ (h3.sub _ hp) (nt _ hp)
          exact rx_eow C.PO W' (hf.mono up) (a1.mono up) q1 (up _ hr) hvi (up _ hb) (by omega) (by omega) (by omega)
      · rintro v l' ⟨hv, xs', ht, hk', hn⟩
        exact ⟨hv, T10.keep h3 Oe Oi e3 i3 F3 nt ht hk' hn⟩
  clear F3 ho2 hd2 ho3 hd3 ho4 hd4 h3 Oe Oi e3 i3 o2 o3 o4
  clear xs l3
  rintro l3 ⟨xs, h3, Oe, Oi, e3, i3⟩
  obtain ⟨o2, ho2, hd2⟩ := h3.cells.c2
  obtain ⟨o4, ho4, hd4⟩ := h3.cells.c4
  refine Go.fn fun F3 => ?_
  refine go_skipP (P := T10 c.L lb qual (some (.ref bx)) (some (.int (i : Int) tv)) (some (.int x.1 t)) (some (.ref f.o)) e9 it9 oe oi) ?_ ?_
  · have tw : ∀ bb, (x.2.word == Str.ofString "FOR") = bb → Ts c m3 l3 _ bb := fun bb hw => Ts.as (ts_eqs (pos := ⟨185, 11, 185, 32⟩) (ps_tup (pos' := ⟨185, 11, 185, 23⟩) (k := 0) (h3.sub _ ha) rfl (by decide) (pu_name (pos := ⟨185, 11, 185, 20⟩) W mS) (pu_int (pos := ⟨185, 21, 185, 22⟩) (k := 0))) (pu_str (x := Str.ofString "FOR") (pos := ⟨185, 27, 185, 32⟩) (k := 0))) hw
    cases hw : (x.2.word == Str.ofString "FOR") with
    | false => exact tsp_and_f ((tw _ hw).tsp (.mk xs h3 Oe Oi e3 i3))
    | true =>
      refine tsp_and_t (P1 := fun l' => l' = l3) ((tw _ hw).tsp rfl) fun l' e => ?_
      rw [e]
      refine tsp_and_f (Tr.mono (told_get C h3.tab hq F3 ho2 hd2 ho4 hd4 (by rw [C.cl, W.hs]; exact rfl) rfl rfl rfl (by decide) rfl rfl rfl (by decide) fact_nof fact_nof2 (kvs := kL2) (fun l' hk' => pu_get (pu_name W mL') (hk'.sub _ (h3.sub _ d1.hm) (nt _ d1.hm)) d1.hd d1.lo (Pu.int (pu_cell W (by rw [C.cl]; exact rfl) (hk'.sub _ ho2 (cell_191 F3 h3.cells.c2 h3.tab)) hd2)) pu_str) rfl ?_) ?_)
      · rcases same_at c2 d2 S2 (i : Int) with ⟨v, y, z, q1, q2, u1, u2⟩ | ⟨q1, q2⟩
        · refine .inl ⟨v, y, fun c' l' sc' m' hk' W' g1 g2 => tr_nof (o := oL) W' ?_ ?_ q1 (by omega) (by omega), q2, fun l' hk' => ne_pair (u1.mono fun p hp => hk'.sub _ (h3.sub _ hp) (nt _ hp)) (u2.mono fun p hp => hk'.sub _ (h3.sub _ hp) (nt _ hp))⟩
          · exact hf.mono fun p hp => hk'.sub _ (h3.sub _ hp) (nt _ hp)
          · exact c1.mono fun p hp => hk'.sub _ (h3.sub _ hp) (nt _ hp)
        · refine .inr ⟨fun c' l' sc' m' hk' W' g1 g2 => ?_, q2⟩
          have up : ∀ p ∈ lb, p ∈ l' := fun p hp => hk'.sub _ (h3.sub _ hp) (nt _ hp)
          exact rx_nof C.PO W' (hf.mono up) (c1.mono up) q1 (up _ hr) hvi (up _ hb) (by omega) (by omega) (by omega)
      · rintro v l' ⟨hv, xs', ht, hk', hn⟩
        exact ⟨hv, T10.keep h3 Oe Oi e3 i3 F3 nt ht hk' hn⟩
  clear F3 ho2 hd2 ho4 hd4 h3 Oe Oi e3 i3 o2 o4 xs l3
  rintro l3 ⟨xs, h3, Oe, Oi, e3, i3⟩
  refine go_nil (End.sub (l' := [(e9, oe), (it9, oi)] ++ without it9 (without e9 l3)) (T0.nx m3 (without it9 (without e9 l3)) ?_ (.mk xs _ _ hri ((h3.wo Oe).wo Oi) mP' mL')) ?_)
  · intro p hp q hq
    have z1 := (mem_without.mp hq)
    have z2 := (mem_without.mp z1.1)
    rcases List.mem_cons.mp hp with rfl | hp
    · exact fun e => z2.2 e.symm
    · rw [List.mem_singleton.mp hp]
      exact fun e => z1.2 e.symm
  · intro p hp
    rcases List.mem_cons.mp hp with rfl | hp
    · exact e3
    rcases List.mem_cons.mp hp with rfl | hp
    · exact i3
    · exact (mem_without.mp (mem_without.mp hp).1).1
end
noncomputable def HeadV (l : Led) (v : Value) (x : Str × Nat) : Prop := ∃ tu t1 t2, v = .ref tu ∧ (tu, tupO [.str x.1 t1, .int (x.2 : Int) t2]) ∈ l
theorem HeadV.mono {l l' : Led} {v : Value} {x : Str × Nat} (hs : ∀ p ∈ l, p ∈ l') (h : HeadV l v x) : HeadV l' v x := let ⟨tu, t1, t2, e, m⟩ := h; ⟨tu, t1, t2, e, hs _ m⟩
theorem entry_upd_loop : entryFor table "dict.update.loop" = some Builtin.«dict.update.loop» := entryFor_of_tree (by kernel_rfl)
theorem plain_upd_loop : plainId "dict.update.loop" = true := by decide +kernel
theorem no_keys {prog : Program} {w : World} {A : Around} {E : Value → Shared → Prop} {s : Shared} {a : Addr} {xs : List Value} {k : Nat} {Q : Option Value → Shared → Prop} (hx : s.heap.get? a = some (lstO xs k)) (hA : A.handled = none)
    (h : ∀ h' tk, (∀ b o, s.heap.get? b = some o → h'.get? b = some o) → Q none { s with heap := h', toks := tk }) : wpAny (model prog w) A (getAttr? (.ref a) "keys") Q E s := by
  obtain ⟨hp, g, d, tk, os⟩ := s
  have hT : ∀ tk', (⟨hp, g, d, tk', os⟩ : Shared).TypeIs (.ref a) "list" := fun _ => ⟨_, hx, rfl⟩
  have f1 := sub_AttributeError
  have f3 := F.slot_list_getattribute.lookup
  have f4 := F.slot_list_getattribute.bind (.ref a)
  have f5 := am_list_getattr_none
  unfold getAttr? getAttrBy? getAttrBy
  repeat (any_goals (first | assumption | exact hT _ | ((with_reducible show wpAny _ _ (call (Value.builtin "list.__getattribute__") _ _) _ _ _); refine call_meets F.slot_list_getattribute (hT _) am_entry_list_getattribute (F.args_list_getattribute_2 _ _) (meets_getattribute_miss_list a xs.toArray k #[] "keys" _ (am_miss_of_fast (by decide +kernel)) (by decide +kernel) (by decide +kernel)) ⟨hx, hA, fun h' tk' e hx' => ?_⟩) | wp_step))
  obtain ⟨t', u', he⟩ := hx'.there
  show wpAny _ _ (getattributeRaised _ _ _ _ _ _ _) _ _ _
  unfold getattributeRaised
  repeat (any_goals (first | assumption | wp_step))
  exact h _ _ hx'.keeps
section
variable {prog : Program} {w : World} {c : Wc prog w} {sc : Scope} {m : Nm} {l : Led} {d I li : Addr} {items : List Value} {k9 : Nat}
theorem dict_loop {A : Around} {R : Result → Shared → Prop} (hA : A.handled = none) (hli : (li, lstO items k9) ∈ l) (offI : ∀ p ∈ l, p.1 ≠ I) (offd : ∀ p ∈ l, p.1 ≠ d) (hdI : d ≠ I) :
    ∀ (rest : List Value) (xs : List (Str × Nat)) (pre : List Value) (t : Tok) (oI od : Obj) (kvs : List (Str × Value)) (acc : List (Str × Nat)) (h : Heap) (tk : Tok), items = pre ++ rest → Two (HeadV l) rest xs → At c m ((d, od) :: (I, oI) :: l) h → (oI.cls = .type "list_iterator" ∧ oI.data = .fields #[.ref li, .int (pre.length : Int) 0]) → od.IsDictOf (PySem.strKind prog w) kvs → Two (KV NatV) kvs acc → kvs.length + rest.length < 1000000 →
    (∀ h' tk' od' kvs', At c m ((d, od') :: l) h' → od'.IsDictOf (PySem.strKind prog w) kvs' → Two (KV NatV) kvs' (xs.foldl pf acc) → kvs'.length < 1000000 → R (.ok (.ret .none)) (c.st h' tk')) →
    codeAny (model prog w) A (.builtin "dict.update.loop" ⟨[.ref d, .ref I, .int (pre.length : Int) t, .none], []⟩) R (c.st h tk) := by
  intro rest
  induction rest with
  | nil =>
    intro xs pre t oI od kvs acc h tk hit h2 H hI hd hk hz hR
    cases h2
    refine codeAny_builtin entry_upd_loop ?_
    rw [Around.under_plainId plain_upd_loop _]
    show wpAny _ A.in1 (pyNext (.ref I) >>= _) _ _ _
    have zI := H.N (I, oI) (.tail _ (.head _))
    refine wpAny_bind (wpAny_pyNext_list_end (s := c.st h tk) (items := items.toArray) hA ⟨oI, zI.1, hI.1, hI.2⟩ ⟨_, (H.N _ (.tail _ (.tail _ hli))).1, rfl, k9, rfl⟩ (by rw [hit]; simp) fun h1 he1 => ?_)
    refine wpAny_bind (wpAny_pure (wpAny_pure (hR h1 tk od kvs ⟨⟨H.F.ns.at' fun o e => he1 _ o (Ne.symm zI.2.1) e, fun b o e => he1 b o (fun q => by rw [q, zI.2.2] at e; cases e) (H.F.keep b o e), H.F.above⟩, fun p hp => ?_⟩ hd hk (by simpa using hz))))
    rcases List.mem_cons.mp hp with rfl | hp
    · have y := H.N _ (.head _)
      exact ⟨he1 _ _ hdI y.1, y.2⟩
    · have y := H.N p (.tail _ (.tail _ hp))
      exact ⟨he1 _ _ (offI p hp) y.1, y.2⟩
  | cons v rest ih =>
    intro xs pre t oI od kvs acc h tk hit h2 H hI hd hk hz hR
    cases h2 with
    | @cons _ x _ xs' hx hxs =>
    obtain ⟨tu, t1, t2, rfl, htu⟩ := hx
    refine codeAny_builtin entry_upd_loop ?_
    rw [Around.under_plainId plain_upd_loop _]
    show wpAny _ A.in1 (pyNext (.ref I) >>= _) _ _ _
    have zI := H.N (I, oI) (.tail _ (.head _))
    refine wpAny_bind (wpAny_pyNext_list_item (s := c.st h tk) (items := items.toArray) (x := .ref tu) ⟨oI, zI.1, hI.1, hI.2⟩ ⟨_, (H.N _ (.tail _ (.tail _ hli))).1, rfl, k9, rfl⟩ (by rw [hit]; simp) fun h1 hit1 hs1 => ?_)
    obtain ⟨oI', ho', hc', hd'⟩ := id hit1
    have H1 : At c m ((d, od) :: (I, oI') :: l) h1 := at_sub (at_same (I := I) (o := oI) (l1 := (d, od) :: l) (own := []) (at_sub H fun p hp => by
      rcases List.mem_cons.mp hp with rfl | hp
      · exact .tail _ (.head _)
      rcases List.mem_cons.mp hp with rfl | hp
      · exact .head _
      · exact .tail _ (.tail _ hp)) (List.forall_mem_cons.mpr ⟨hdI, offI⟩) hs1 ho') fun p hp => by
      rcases List.mem_cons.mp hp with rfl | hp
      · exact .tail _ (.head _)
      rcases List.mem_cons.mp hp with rfl | hp
      · exact .head _
      · exact .tail _ (.tail _ hp)
    have ztu := (H1.N _ (.tail _ (.tail _ htu))).1
    refine wpAny_bind (wpAny_holding (wpAny_bind ?_))
    refine wpAny_tryCatch ?_
    unfold Builtin.Dict.pairItems
    refine wpAny_bind (wpAny_typeOf (T := "tuple") ⟨_, ztu, rfl⟩ ?_)
    rw [if_pos (by decide +kernel)]
    refine wpAny_bind (wpAny_seqItems ztu rfl (wpAny_pure ?_))
    show wpAny _ _ (holding [Value.str x.1 t1, .int (x.2 : Int) t2] (dictSet d (.str x.1 t1) (.int (x.2 : Int) t2))) _ _ _
    have zd := H1.N (d, od) (.head _)
    refine wpAny_holding (wpAny_dictSet_pairs (knd := PySem.strKind prog w) (strKind_is _ _ _ _) (Heap.dictOf_iff.mpr ⟨od, zd.1, hd⟩) (fun h2 hm2 hs2 => ?_) (by rw [sizeLine_eq]; omega))
    obtain ⟨od', hod', hd2⟩ := Heap.dictOf_iff.mp hm2
    have H2 : At c m ((d, od') :: (I, oI') :: l) h2 := at_same (I := d) (own := []) H1 (List.forall_mem_cons.mpr ⟨hdI.symm, offd⟩) hs2 hod'
    have e9 : ((pre ++ [Value.ref tu]).length : Int) = (pre.length : Int) + 1 := by simp
    have hz2 := stored_le kvs x.1 (Value.int (x.2 : Int) t2)
    have := ih xs' (pre ++ [.ref tu]) 0 oI' od' (stored kvs x.1 (.int (x.2 : Int) t2)) (pf acc x) h2 (tk + 1) (by rw [hit, List.append_assoc]; rfl) hxs H2 ⟨hc', by rw [hd', List.length_append]; rfl⟩ hd2 (kv_stored hk ⟨t2, rfl⟩) (by rw [List.length_cons] at hz; omega) hR
    rw [e9] at this
    exact wpAny_pure ⟨plainId_quiet plain_upd_loop _, this⟩
theorem tr_dictL {xs : List (Str × Nat)} (W : c.Ok sc) (hli : (li, lstO items k9) ∈ l) (h2 : Two (HeadV l) items xs) (hz : items.length < 1000) : Tr c m l (call (.type "dict") [.ref li]) (fun v l' => ∃ d o kvs, v = .ref d ∧ l' = (d, o) :: l ∧ (d == sysModules) = false ∧ o.IsDictOf (PySem.strKind prog w) kvs ∧ Two (KV NatV) kvs (xs.foldl pf [])) := .mk fun h tk Q E H kk => by
  refine callType_codes (Q₁ := fun obj s₁ => obj = .ref h.objs.size ∧ s₁ = c.st (h.push { cls := .type "dict", data := .dict #[] }) tk) PySem.F.kt_called_dict (PySem.F.kt_typeCall_dict_1 _) PySem.F.entry_dict_init (kt_code_dict_new _ ⟨rfl, rfl⟩) ?_
  rintro obj s₁ ⟨rfl, rfl⟩
  have hnew : (h.push { cls := .type "dict", data := .dict #[] }).DictOf (PySem.strKind prog w) h.objs.size [] := Heap.DictOf.new h
  obtain ⟨od, hod, hdd⟩ := Heap.dictOf_iff.mp hnew
  obtain ⟨H1, A1⟩ := at_push (o := { cls := .type "dict", data := .dict #[] }) rfl H
  have offd : ∀ p ∈ l, p.1 ≠ h.objs.size := fun p hp => (A1 _ (.head _) p hp).symm
  have lo : (h.objs.size == sysModules) = false := H.F.notModules (modules_low W.T.nolimit)
  generalize h.objs.size = d at *
  refine ⟨hnew.typeIs, PySem.F.args_dict_init_2 _ _, ?_⟩
  unfold Builtin.«dict.__init__»
  refine wpAny_bind ?_
  unfold Builtin.Dict.selfAndRest
  refine wpAny_bind (wpAny_notOrdered_dict hnew.typeIs ?_)
  show wpAny _ _ (pure (d, [Value.ref li])) _ _ _
  refine wpAny_pure ?_
  show wpAny _ _ (Builtin.Dict.updateFrom "dict.__init__" d (.ref li) [] .none) _ _ _
  unfold Builtin.Dict.updateFrom
  have zl := (H1.N _ (.tail _ hli)).1
  refine wpAny_bind (wpAny_typeOf (T := "list") ⟨_, zl, rfl⟩ ?_)
  rw [if_pos (by decide)]
  refine wpAny_bind (no_keys zl rfl fun h3 tk3 hk3 => ?_)
  rw [if_pos (show (none : Option Value).isNone = true from rfl)]
  refine wpAny_bind (wpAny_rule ?_)
  have H3 : At c m ((d, { cls := .type "dict", data := .dict #[] }) :: l) h3 := ⟨H1.F.keeps hk3, fun p hp => ⟨hk3 _ _ (H1.N p hp).1, (H1.N p hp).2⟩⟩
  refine wpAny_bind (wpAny_pyIter_list (s := c.st h3 tk3) (items := items.toArray) ⟨_, (H3.N _ (.tail _ hli)).1, rfl, k9, rfl⟩ ?_)
  obtain ⟨H4, A4⟩ := at_push (o := { cls := .type "list_iterator", data := .fields #[.ref li, .int 0 0] }) rfl H3
  have hd0 : ({ cls := .type "dict", data := .dict #[] } : Obj).IsDictOf (PySem.strKind prog w) [] := by
    have z := (H1.N _ (.head _)).1
    rw [hod] at z
    cases z
    exact hdd
  refine wpAny_pure ⟨plainId_quiet plain_upd_loop _, ?_⟩
  refine dict_loop (A := c.A.in1) (pre := []) (acc := []) (kvs := []) (m := m) rfl hli (fun p hp => (A4 _ (.head _) p (.tail _ hp)).symm) offd (A4 _ (.head _) _ (.head _)).symm items xs _ { cls := .type "list_iterator", data := .fields #[.ref li, .int 0 0] } _ _ _ rfl h2 (at_sub H4 fun p hp => ?_) ⟨rfl, rfl⟩ hd0 .nil (by simp only [List.length_nil]; omega) fun h' tk' od' kvs' H5 d5 k5 z5 => ⟨rfl, kk _ _ _ _ ⟨d, od', kvs', rfl, rfl, lo, d5, k5⟩ H5⟩
  rcases List.mem_cons.mp hp with rfl | hp
  · exact .tail _ (.head _)
  rcases List.mem_cons.mp hp with rfl | hp
  · exact .head _
  · exact .tail _ (.tail _ hp)
end
theorem HL_app : ∀ (a b : List (Int × RK)) (i : Nat), HL i (a ++ b) = HL i a ++ HL (i + a.length) b
  | [], _, _ => rfl
  | x :: a, b, i => by
    rw [List.cons_append, HL, HL, HL_app a b (i + 1), List.append_assoc, List.length_cons, show i + 1 + a.length = i + (a.length + 1) by omega]
theorem HL_take {rows : List (Int × RK)} {i : Nat} {x : Int × RK} (h : rows[i]? = some x) : HL 0 (rows.take (i + 1)) = HL 0 (rows.take i) ++ HL i [x] := by
  have hi := (List.getElem?_eq_some_iff.mp h).1
  rw [List.take_add_one, h, HL_app, List.length_take, Nat.min_eq_left (Nat.le_of_lt hi), Nat.zero_add]
  rfl
theorem HL_not {i : Nat} {x : Int × RK} (h : (x.2.word == Str.ofString "DEFLINES") = false) : HL i [x] = [] := by
  obtain ⟨a, k⟩ := x
  cases k with
  | leaf v l =>
    cases l with
    | deff n => simp only [RK.word, Lf.word, beq_self_eq_true] at h; cases h
    | _ => rfl
  | _ => rfl
inductive C11J (l0 : Led) (rows : List (Int × RK)) (i : Nat) (ys : List Value) (l1 : Led) : Prop
  | mk (sub : ∀ p ∈ l0, p ∈ l1) (h : Two (HeadV l1) ys (HL 0 (rows.take i)))
section
variable {prog : Program} {w : World} {c : Wc prog w} {m : Nm} {l l' lb : Led} {rest : List Stmt} {Q : Flow → Shared → Prop}
theorem cas_nest {scope : Scope} {cl : List (Str × Addr)} {C D D2 : Addr} {x y z : Str} {v1 v2 v3 : Value} {k1 k2 : Nat} {p1 p2 p3 p4 p5 : Pos} (hk : scope.kind = .function) (hx : scope.names.lookup x = some .local) (hy : scope.names.lookup y = some .local) (hz : scope.names.lookup z = some .local) (hxy : x ≠ y) (hxz : x ≠ z) (hyz : y ≠ z) (hm : (D, tupO [v1, .ref D2]) ∈ l) (hm2 : (D2, tupO [v2, v3]) ∈ l) :
    CAs c m (compEnvC scope cl C c.ev) C (.Tuple [.Name x p1, .Tuple [.Name y p2, .Name z p3] k1 p4] k2 p5) (.ref D) l (fun m2 => m2 x = some v1 ∧ m2 y = some v2 ∧ m2 z = some v3) := fun oC m2 h tk Q E hN H off k => by
  refine unpackN_ (items := #[v1, .ref D2]) H.F H.N ⟨_, (H.N _ (.tail _ hm)).1, rfl, 0, rfl⟩ rfl rfl rfl fun h' F' N' => ?_
  refine assignInOrder_cons (wpAny_assign_Name (cas_store hk hx hN ⟨F', N'⟩ off fun oC' h2 tk2 hN2 H2 => assignInOrder_cons ?_))
  show wpAny _ _ (assign (.Tuple [.Name y p2, .Name z p3] k1 p4) (compEnvC scope cl C c.ev) (.ref D2)) _ _ _
  refine unpackN_ (items := #[v2, v3]) H2.F H2.N ⟨_, (H2.N _ (.tail _ hm2)).1, rfl, 0, rfl⟩ rfl rfl rfl fun h3 F3 N3 => ?_
  exact assignInOrder_cons (wpAny_assign_Name (cas_store hk hy hN2 ⟨F3, N3⟩ off fun oC3 h4 tk4 hN4 H4 => assignInOrder_cons (wpAny_assign_Name (cas_store hk hz hN4 H4 off fun oC5 h5 tk5 hN5 H5 => assignInOrder_nil (assignInOrder_nil (k oC5 _ h5 tk5 hN5 ⟨by simp [upd, hxy, hxz], by simp [upd, hyz], by simp [upd]⟩ H5))))))
set_option maxRecDepth 100000 in
theorem law_11 {f : FA} {its : List Value} {n : Nat} {rows : List (Int × RK)} {o4 : Obj} (C : LawC c) (hf : FlatIn w.params f l) (hr : (f.rows, lstO its n) ∈ l) (hR : RowsL l its rows) (hz : rows.length < 300) (h4 : (c.L + 4, o4) ∈ l) (d4 : o4.data = .cell (some (.ref f.o)))
    (k : ∀ D ys kk l', (∀ p ∈ l, p ∈ l') → (D, lstO ys kk) ∈ l' → Two (HeadV l') ys (HL 0 rows) → Go c Q (upd m (Str.ofString "heads") (.ref D)) l' rest) : Go c Q m l (lawSt11 :: rest) := by
  unfold lawSt11
  have W := C.W
  have hlen := hR.length
  refine go_comp W (n := its.length) (J := C11J l rows) (cl := []) ?_ ?_ ?_ ?_ (src_enum (items := its) (k9 := n) W (pu_rows W.toOk hf (pu_cell W (by rw [C.cl]; exact rfl) h4 d4)) hr) (by omega) (.mk (fun p h => h) .nil) hr ?_ ?_
  · rw [W.he, C.cl, W.hs]; exact rfl
  · decide
  · exact rfl
  · decide
  · rintro i v ex own l1 ys C' D hi ⟨sub, hys⟩ hlo ⟨Tt, tv, x, rfl, hx, rfl⟩ offC offD apO ownD
    obtain ⟨v', y, hv', hy, b, a, t, kk, rs, rfl, hb, ha, htl⟩ := two_get hR (i := i) (by omega)
    rw [hx] at hv'
    cases hv'
    obtain ⟨L8, hL8⟩ : ∃ L8 : Led, L8 = [(Tt, tupO [.int (i : Int) tv, .ref b])] ++ (own ++ (D, lst9 ys) :: l1) := ⟨_, rfl⟩
    have sub8 : ∀ p ∈ l1, p ∈ L8 := fun p h => hL8 ▸ List.mem_append_right _ (List.mem_append_right _ (.tail _ h))
    rw [← hL8] at offC ⊢
    refine ⟨_, cas_nest rfl rfl rfl rfl (by decide +kernel) (by decide +kernel) (by decide +kernel) (show (Tt, tupO [.int (i : Int) tv, .ref b]) ∈ L8 by rw [hL8]; exact .head _) (sub8 _ (sub _ hb)), ?_⟩
    rintro oC' m2 hN ⟨g1, g2, g3⟩
    have sub9 : ∀ p ∈ l1, p ∈ (C', oC') :: L8 := fun p h => .tail _ (sub8 p h)
    refine ⟨y.2.word == Str.ofString "DEFLINES", ts_eqs (ps_tup (k := 0) (sub9 _ (sub _ ha)) rfl (by decide) (pc_own W rfl (.head _) hN g3) pu_int) pu_str, fun hw => ?_, fun hw => ?_⟩
    · obtain ⟨v', nm, hlf⟩ := is_def (eq_of_beq hw)
      have htl' := htl
      rw [hlf] at htl'
      obtain ⟨_, kx, xx, rfl⟩ := htl'
      refine ev_tup (P1 := fun vs l' => vs = [.str nm kx, .int (i : Int) tv] ∧ l' = (C', oC') :: L8) (ar_cons (pu_tup (k := 1) (sub9 _ (sub _ ha)) rfl (by decide) (pc_own W rfl (.head _) hN g3) pu_int) ?_) ?_
      · rintro _ _ ⟨rfl, rfl⟩
        refine ar_cons (pc_own W rfl (.head _) hN g1) ?_
        rintro _ _ ⟨rfl, rfl⟩
        exact ar_nil ⟨rfl, rfl⟩
      · rintro _ _ ⟨rfl, e9⟩
        rw [e9]
        refine ⟨Nat.le_of_ble_eq_true rfl, fun E hE => ?_⟩
        have lt9 : ∀ p ∈ (C', oC') :: L8, p.1 ≠ E := fun p hp => Nat.ne_of_lt (allLt_iff.mp hE p hp)
        refine ⟨(E, tupO [.str nm kx, .int (i : Int) tv]) :: l1, ?_, ?_, ?_, .tail _ hlo, .mk (fun p h => .tail _ (sub p h)) ?_⟩
        · intro p hp
          rcases List.mem_cons.mp hp with rfl | hp
          · exact .tail _ (.head _)
          rcases List.mem_append.mp hp with hp | hp
          · exact .tail _ (.tail _ (hL8 ▸ List.mem_append_right _ (List.mem_append_left _ hp)))
          rcases List.mem_cons.mp hp with rfl | hp
          · exact .tail _ (.tail _ (hL8 ▸ List.mem_append_right _ (List.mem_append_right _ (.head _))))
          rcases List.mem_cons.mp hp with rfl | hp
          · exact .head _
          · exact .tail _ (sub9 _ hp)
        · refine List.forall_mem_cons.mpr ⟨⟨(lt9 _ (.head _)).symm, (lt9 (D, lst9 ys) (.tail _ (hL8 ▸ List.mem_append_right _ (List.mem_append_right _ (.head _))))).symm⟩, fun p h => ⟨offC p (sub8 p h), offD p h⟩⟩
        · intro q hq p hp
          rcases List.mem_cons.mp hp with rfl | hp
          · exact lt9 q (.tail _ (hL8 ▸ List.mem_append_right _ (List.mem_append_left _ hq)))
          · exact apO q hq p hp
        · rw [HL_take hy]
          refine (hys.mono fun _ _ h => HeadV.mono (fun p h => .tail _ h) h).append ?_
          obtain ⟨y1, y2⟩ := y
          dsimp only at hlf
          subst hlf
          exact .cons ⟨E, kx, tv, rfl, .head _⟩ .nil
    · exact .mk sub (by rw [HL_take hy, HL_not hw, List.append_nil]; exact hys)
  · rintro D ys l1 ⟨sub, hys⟩ off
    rw [List.take_of_length_le (by omega)] at hys
    exact k D ys _ _ (fun p hp => .tail _ (sub p hp)) (.head _) (hys.mono fun _ _ h => HeadV.mono (fun p h => .tail _ h) h)
theorem ev_sliceRev {value e : Expr} {D : Addr} {its : List Value} {n : Nat} {sp pos : Pos} {P : Value → Led → Prop} (hv : Pu c m l value (Eqv (.ref D))) (he : Pu c m l e (IntV (-1))) (hm : (D, lstO its n) ∈ l) (hz : its.length ≤ sizeLine) (kP : ∀ D2, AllLt D2 l → P (.ref D2) ((D2, lstO its.reverse 0) :: l))
    (ht : ∀ o r, letTemporaryGo value o r = pure () := by intro _ _; rfl) : Ev c m l (.Subscript value (.Slice none none (some e) sp) pos) P := .mk fun h tk Q E H kk => by
  refine Subscript_ (hv.run h tk _ E H ?_)
  rintro _ _ h1 tk1 ⟨rfl, rfl⟩ H1
  refine wpAny_Slice ?_
  rw [evalPart_none]
  refine wpAny_pure ?_
  refine wpAny_pure ?_
  rw [evalPart_some]
  refine he.run h1 tk1 _ E H1 ?_
  rintro _ _ h2 tk2 ⟨⟨t, rfl⟩, rfl⟩ H2
  refine krv_lit (ops := [.ref D, .ref h2.objs.size]) (s := c.st h2 tk2) (its := its.toArray) H2.F H2.N ⟨_, (H2.N _ hm).1, rfl, n, rfl⟩ (.int _ _) rfl (fun D2 h3 F3 N3 l1 => kk _ _ _ _ (kP D2 (allLt_iff.mpr l1)) ⟨F3, N3⟩) ?_ (fun r => ht _ r) (by rw [List.size_toArray]; exact hz)
  with_unfolding_all rfl
theorem ev_eqD {e1 e2 : Expr} {a : Addr} {pos : Pos} {K : Type} [DecidableEq K] {knd : KeyKind prog w K} {P P2 : Value → Led → Prop} (h1 : Pu c m l e1 (Eqv (.ref a))) (h2 : Ev c m l e2 P2) (hb : behindInMarks .Eq e2 = false := by rfl)
    (k : ∀ v2 l', P2 v2 l' → ∃ b oa ob ka kb n, v2 = .ref b ∧ (a, oa) ∈ l' ∧ (b, ob) ∈ l' ∧ oa.IsDictOf knd ka ∧ ob.IsDictOf knd kb ∧ (a == sysModules) = false ∧ (b == sysModules) = false ∧ ka.length = kb.length ∧ c.un + n + 1 < cLine ∧ (∀ k v, (k, v) ∈ ka → ∃ y, valueAt kb k = some y ∧ EqsL l' n v y) ∧ P (.bool true) l') : Ev c m l (.Compare e1 [.Eq] [e2] pos) P := .mk fun h tk Q E H kk => by
  refine wpAny_Compare1 (h1.run h tk _ E H ?_) hb
  rintro _ _ h' tk' ⟨rfl, rfl⟩ H'
  refine h2.run h' tk' _ E H' ?_
  intro v2 l2 h3 tk3 p H3
  obtain ⟨b, oa, ob, ka, kb, n, rfl, pa, pb, da, db, la, lb, hl, hu, hk, hP⟩ := k v2 l2 p
  have hu2 : c.A.in1.units + n < cLine := by have := units_in1 (A := c.A); show _ < _; have e : c.A.units = c.un := rfl; omega
  exact keq_pairs (s := c.st h3 tk3) H3.N pa pb da db la lb hl (by show c.un < _; omega) (hits_of H3 hu2 hk) (kk _ _ _ _ hP H3)
theorem fact_dictT : bootBuiltins (Str.ofString "dict") = some (.type "dict") := by boot_fast
theorem fact_dictT0 : ∀ P, nsIn (Mine.K P) mainGlobals (Str.ofString "dict") = some none := fun P => by k_is
set_option maxRecDepth 100000 in
theorem law_12 {f : FA} {D : Addr} {ys : List Value} {kk : Nat} {rows : List (Int × RK)} {o4 oF : Obj} {kF : List (Str × Value)} (C : LawC c) (hf : FlatIn w.params f l) (h4 : (c.L + 4, o4) ∈ l) (d4 : o4.data = .cell (some (.ref f.o))) (hz : rows.length < 300) (mH : m (Str.ofString "heads") = some (.ref D)) (hD : (D, lstO ys kk) ∈ l) (hys : Two (HeadV l) ys (HL 0 rows))
    (a1 : (f.fns, oF) ∈ l) (a2 : oF.IsDictOf (PySem.strKind prog w) kF) (a3 : Two (KV NatV) kF (gfold 0 .zero rows).fns) (a4 : (f.fns == sysModules) = false) (k : ∀ l', (∀ p ∈ l, p ∈ l') → End c Q m l' (.ret (.bool true))) : Go c Q m l (lawSt12 :: rest) := by
  unfold lawSt12
  have W := C.W
  have hun := C.un
  have hHL : ∀ (rs : List (Int × RK)) (i : Nat), (HL i rs).length ≤ rs.length := by
    intro rs
    induction rs with
    | nil => exact fun _ => Nat.le_refl _
    | cons r rs ih =>
      intro i
      have h2 := ih (i + 1)
      have h3 : (HL i [r]).length ≤ 1 := by
        obtain ⟨a, k⟩ := r
        cases k with
        | leaf v l => cases l <;> exact Nat.le_of_ble_eq_true rfl
        | _ => exact Nat.le_of_ble_eq_true rfl
      rw [show r :: rs = [r] ++ rs from rfl, HL_app, List.length_append, List.length_append]
      simp only [List.length_singleton]
      omega
  have hl9 := hHL rows 0
  have hyl := hys.length
  refine go_ret (P := fun v l' => v = .bool true ∧ ∀ p ∈ l, p ∈ l') (ev_eqD (knd := PySem.strKind prog w) (P2 := fun v l' => ∃ d o kvs, v = .ref d ∧ (∀ p ∈ l, p ∈ l') ∧ (d, o) ∈ l' ∧ (d == sysModules) = false ∧ o.IsDictOf (PySem.strKind prog w) kvs ∧ Two (KV NatV) kvs ((HL 0 rows).reverse.foldl pf [])) (pu_fns W.toOk hf (pu_cell W (by rw [C.cl]; exact rfl) h4 d4)) (ev_tcall1 (P1 := fun v l' => ∃ D2, v = .ref D2 ∧ l' = (D2, lstO ys.reverse 0) :: l) (pu_bname W fact_dictT0 fact_dictT) (ev_sliceRev (pu_name W mH) (Pu.as (pu_subt (a := 0) (b := 1) pu_int pu_int) (by decide)) hD (by rw [sizeLine_eq]; omega) fun D2 h => ⟨D2, rfl, rfl⟩) ?_) rfl ?_) ?_
  · rintro _ _ ⟨D2, rfl, rfl⟩
    have hrev : Two (HeadV ((D2, lstO ys.reverse 0) :: l)) ys.reverse (HL 0 rows).reverse := by
      have : ∀ (a : List Value) (b : List (Str × Nat)), Two (HeadV l) a b → Two (HeadV ((D2, lstO ys.reverse 0) :: l)) a.reverse b.reverse := by
        intro a b h
        induction h with
        | nil => exact .nil
        | cons h _ ih =>
          rw [List.reverse_cons, List.reverse_cons]
          exact ih.append (.cons (h.mono fun p hp => .tail _ hp) .nil)
      exact this _ _ hys
    refine (tr_dictL W.toOk (.head _) hrev (by rw [List.length_reverse]; omega)).mono ?_
    rintro _ _ ⟨d, o, kvs, rfl, rfl, lo, hd, hk⟩
    exact ⟨d, o, kvs, rfl, fun p hp => .tail _ (.tail _ hp), .head _, lo, hd, hk⟩
  · rintro _ l' ⟨d, o, kvs, rfl, sub, hm, lo, hd, hk⟩
    have S := fns_same rows
    refine ⟨d, oF, o, kF, kvs, 0, rfl, sub _ a1, hm, a2, hd, a4, lo, same_len a3 hk S, by omega, same_hits a3 hk S fun v y x h1 h2 => ?_, rfl, sub⟩
    obtain ⟨t1, rfl⟩ := h1
    obtain ⟨t2, rfl⟩ := h2
    exact .int
  · rintro _ l' ⟨rfl, sub⟩
    exact k l' sub
end
noncomputable def noCells (l : Led) : Led := l.filter fun p => match p.2.data with | .cell _ => false | _ => true
theorem mem_noCells {l : Led} {p : Addr × Obj} : p ∈ noCells l ↔ p ∈ l ∧ NC p.2 := by
  unfold noCells
  rw [List.mem_filter]
  constructor
  · rintro ⟨h1, h2⟩
    exact ⟨h1, fun v e => by rw [e] at h2; cases h2⟩
  · rintro ⟨h1, h2⟩
    refine ⟨h1, ?_⟩
    split
    · rename_i v e
      exact absurd e (h2 v)
    · rfl
noncomputable abbrev fixedOf (l : Led) : Led := without 191 (noCells l)
theorem mem_fixed {l : Led} {p : Addr × Obj} : p ∈ fixedOf l ↔ (p ∈ l ∧ NC p.2) ∧ p.1 ≠ 191 := by rw [mem_without, mem_noCells]
section
variable {l l' : Led} {a b : Addr} {o : Obj} {v : Option Value} {qual : Str} {xs : List (Int × Int × Addr)}
theorem tab_ne (F : FunL l) (ht : TabIn l qual xs) (hb : (b, o) ∈ l) (hn : NF o) : 191 ≠ b := fun e => by
  have := F.eq _ ht.hm _ hb e
  dsimp only at this
  exact hn _ (by rw [← this])
theorem two_fixed (F : FunL l) (ht : TabIn l qual xs) : Sub2 l (fixedOf l) := fun p hp n f => mem_fixed.mpr ⟨⟨hp, n⟩, (tab_ne F ht hp f).symm⟩
theorem cell_ne (F : FunL l) (hc : CellIn l a v) (hb : (b, o) ∈ l) (hn : NC o) : a ≠ b := let ⟨_, h1, h2⟩ := hc; (not_cell F h1 h2 hb hn).symm
theorem lpn {L : Addr} {i j : Nat} (h : i ≠ j) : L + i ≠ L + j := fun e => h (Nat.add_left_cancel e)
end
theorem compL_nx {N : Nat} {r0 r : List (Int × RK)} {p0 p : List (Int × Nat)} {ts : List (Int × T)} (h : CompL r0 p0 ts r p) (hO : OkL N ts) (h0 : ∀ ln v k, (ln, RK.leaf v (.next k)) ∈ r0 → k < 1000) : ∀ ln v k, (ln, RK.leaf v (.next k)) ∈ r → k < 1000 := by
  induction h with
  | nil => exact h0
  | @some rows pl ln t ts r p hne _ ih =>
    refine ih (fun x hx => hO x (.tail _ hx)) fun l9 v k hm => ?_
    rcases List.mem_append.mp hm with hm | hm
    · exact h0 _ _ _ hm
    · obtain ⟨q, hq, e⟩ := List.mem_map.mp hm
      cases e
      have : k ≤ 2 := comp_nx (hO _ (.head _)).1 hq
      omega
  | @none rows pl ln t ts r p v9 _ _ ih =>
    refine ih (fun x hx => hO x (.tail _ hx)) fun l9 v k hm => ?_
    rcases List.mem_append.mp hm with hm | hm
    · exact h0 _ _ _ hm
    · cases List.mem_singleton.mp hm
noncomputable abbrev lnos (n : Nat) : List Int := (List.range n).map fun k => ((10 * k + 5 : Nat) : Int)
theorem lnos_ok {n : Nat} (h : n < 5) : lks_asc (lnos n) = true ∧ (lnos n).Nodup ∧ (3 : Int) ∉ lnos n := by
  match n, h with
  | 0, _ => exact ⟨by decide, by decide, by decide⟩
  | 1, _ => exact ⟨by decide, by decide, by decide⟩
  | 2, _ => exact ⟨by decide, by decide, by decide⟩
  | 3, _ => exact ⟨by decide, by decide, by decide⟩
  | 4, _ => exact ⟨by decide, by decide, by decide⟩
  | n + 5, h => omega
theorem valueAt_none {K : Type} [DecidableEq K] {kvs : List (K × Value)} {k : K} (h : k ∉ kvs.map (·.1)) : valueAt kvs k = none := by
  unfold valueAt
  have : kvs.find? (fun kv => decide (kv.1 = k)) = none := by
    rw [List.find?_eq_none]
    intro x hx hk
    exact h (List.mem_map.mpr ⟨x, hx, of_decide_eq_true hk⟩)
  rw [this]
  rfl
section
variable {prog : Program} {w : World} {c : Wc prog w} {m : Nm} {l l' lb : Led} {rest : List Stmt} {Q : Flow → Shared → Prop}
set_option maxRecDepth 100000 in
theorem law_body {S : Addr} {its : Array Value} {xs : List Int} {qual : Str} (C : LawC c) (hs : ∀ l h, At c m l h → h.IsList S its) (hx : Two (fun v x => IntV x v) its.toList xs) (hz : its.size ≤ 63) (hm : m (Str.ofString "script") = some (.ref S))
    (cl : Cells c.L l none none none none) (TB : TabIn l qual []) (hq : c.cn ++ ".<locals>." ++ "<lambda>" = qual) (k : ∀ m' l' xs', TabIn l' qual xs' → End c Q m' l' (.ret (.bool true))) : Go c Q m l [lawSt0, lawSt1, lawSt2, lawSt3, lawSt4, lawSt5, lawSt6, lawSt7, lawSt8, lawSt9, lawSt10, lawSt11, lawSt12] := by
  have W := C.W
  refine Go.fn fun F => ?_
  refine law_0 C hs hx hz hm cl.c1 ?_
  rintro l1 ⟨bx, nu, nv, kn, t1, t2, t3, hc1, hb1, hn1, h21, s1⟩
  have TB1 : TabIn l1 qual [] := ⟨s1 _ TB.hm (cell_191 F cl.c1 TB).symm, fun q hq => nomatch hq⟩
  have c21 : CellIn l1 (c.L + 2) none := cl.c2.sub fun p hp e => s1 p hp (e ▸ lpn (by decide))
  have c31 : CellIn l1 (c.L + 3) none := cl.c3.sub fun p hp e => s1 p hp (e ▸ lpn (by decide))
  have c41 : CellIn l1 (c.L + 4) none := cl.c4.sub fun p hp e => s1 p hp (e ▸ lpn (by decide))
  clear s1 F TB cl
  have hns : ((xs.take 8).map Int.natAbs ++ [its.size + 5]).length < 100 := by simp only [List.length_append, List.length_map, List.length_take, List.length_singleton]; omega
  have hns0 : 0 < ((xs.take 8).map Int.natAbs ++ [its.size + 5]).length := by simp only [List.length_append, List.length_singleton]; omega
  generalize (xs.take 8).map Int.natAbs ++ [its.size + 5] = ns at *
  obtain ⟨b0, hb0⟩ : ∃ b0, ns[0]? = some b0 := ⟨ns[0], List.getElem?_eq_getElem hns0⟩
  refine Go.fn fun F => ?_
  refine law_1 C hc1 hb1 hn1 h21 hns hb0 ?_
  intro pd ys kn' k9 d1 d2 d3 n' u1 u2 u3 ts l2 hc2 hb2 hn2 h22 hpd hys hO hw hts hd2 s2
  have TB2 : TabIn l2 qual [] := ⟨s2 _ TB1.hm (tab_ne F TB1 hb1 nf_lst), fun q hq => nomatch hq⟩
  have c22 : CellIn l2 (c.L + 2) none := c21.sub fun p hp e => s2 p hp (e ▸ cell_ne F c21 hb1 nc_lst)
  have c32 : CellIn l2 (c.L + 3) none := c31.sub fun p hp e => s2 p hp (e ▸ cell_ne F c31 hb1 nc_lst)
  have c42 : CellIn l2 (c.L + 4) none := c41.sub fun p hp e => s2 p hp (e ▸ cell_ne F c41 hb1 nc_lst)
  clear s2 F TB1 c21 c31 c41 hc1 hb1 hn1 h21
  have hb4 : 1 + b0 % 4 < 5 := by omega
  obtain ⟨n1, n2, n3⟩ := lnos_ok hb4
  rw [show lnos (1 + b0 % 4) = ts.map (·.1) from hts.symm] at n1 n2 n3
  have htl : ts.length = 1 + b0 % 4 := by have := congrArg List.length hts; simpa using this
  refine Go.fn fun F => ?_
  refine law_2 C (if_pos rfl) hpd hys hO (by omega) c42 ?_
  intro fo l3 c43 s3 hF
  have up3 : ∀ {p : Addr × Obj}, p ∈ l2 → NC p.2 → p ∈ l3 := fun hp n => s3 _ hp (nc_ne F c42 hp n)
  have TB3 : TabIn l3 qual [] := ⟨up3 TB2.hm (fun v e => nomatch e), fun q hq => nomatch hq⟩
  have c13 : CellIn l3 (c.L + 1) (some (.ref bx)) := hc2.sub fun p hp e => s3 p hp (e ▸ lpn (by decide))
  have c23 : CellIn l3 (c.L + 2) none := c22.sub fun p hp e => s3 p hp (e ▸ lpn (by decide))
  have c33 : CellIn l3 (c.L + 3) none := c32.sub fun p hp e => s3 p hp (e ▸ lpn (by decide))
  have hys3 : Two (LineAt l3) ys ts := hys.mono fun v x h => h.nc fun p hp n _ => up3 hp n
  refine law_3 C c13 (up3 hb2 nc_lst) (up3 hn2 nc_lst) h22 hns hns0 (by omega) ?_
  intro an han ka
  have hpd3 := up3 hpd nc_lst
  clear s3 TB2 c22 c32 c42 hc2 hb2 hn2 hpd hys F up3
  obtain ⟨l4, hl4⟩ : ∃ l4 : Led, l4 = (an, lstO ((List.range (d2 + 1)).map fun j => .bool (ansF ns j)) ka) :: l3 := ⟨_, rfl⟩
  have s4 : ∀ p ∈ l3, p ∈ l4 := fun p h => hl4 ▸ .tail _ h
  have hA4 : AnsIn l4 an (ansF ns) (d2 + 1) := ⟨(List.range (d2 + 1)).map fun j => .bool (ansF ns j), ka, by rw [hl4]; exact .head _, by simp only [List.length_map, List.length_range]; omega, by simp, fun i hi => by
    rw [List.getElem?_map, List.getElem?_range (by simpa using hi)]; rfl⟩
  rw [← hl4]
  have LC4 : LC c.L [] l3 qual [] (some (.ref bx)) none none (some (.ref fo))   := ⟨(fun p h => nomatch h), ⟨c13, c23, c33, c43⟩, TB3⟩
  have L4 := LC4.mono s4
  have hys4 := hys3.mono fun v x h => h.mono s4
  have hF4 : FlatAt prog w ts [] (.ref fo) l4 := by
    obtain ⟨a0, a1, a2, a3, a4, a5, a6, a7, a8, a9, b1, b2, b3, b4, b5, G⟩ := hF
    have S2 : Sub2 l3 l4 := fun p hp _ _ => s4 p hp
    exact FlatAt.nc (.mk a0 a1 a2 a3 a4 a5 a6 a7 a8 a9 b1 b2 b3 b4 b5 G) S2
  have hpd4 := s4 _ hpd3
  clear hF hys3 LC4 TB3 c13 c23 c33 c43 hpd3 s4 hl4 han
  refine go_assign W ev_nil ?_
  rintro _ _ ⟨dd, rfl, rfl, hdd⟩
  have nm : Nms (upd (upd (upd m (Str.ofString "parsed") (.ref pd)) (Str.ofString "answers") (.ref an)) (Str.ofString "data") (.ref dd)) pd an dd := ⟨(if_neg (by decide +kernel)).trans ((if_neg (by decide +kernel)).trans (if_pos rfl)), (if_neg (by decide +kernel)).trans (if_pos rfl), if_pos rfl⟩
  generalize upd (upd (upd m (Str.ofString "parsed") (.ref pd)) (Str.ofString "answers") (.ref an)) (Str.ofString "data") (.ref dd) = m5 at nm ⊢
  obtain ⟨l5, hl5⟩ : ∃ l5 : Led, l5 = (dd, lstO [] 0) :: l4 := ⟨_, rfl⟩
  have s5 : ∀ p ∈ l4, p ∈ l5 := fun p h => hl5 ▸ .tail _ h
  have hdd5 : (dd, lstO [] 0) ∈ l5 := hl5 ▸ .head _
  rw [← hl5]
  have L5 := L4.mono s5
  have hys5 := hys4.mono fun v x h => h.mono s5
  have hF5 := FlatAt.nc hF4 (fun p hp _ _ => s5 p hp : Sub2 l4 l5)
  have hA5 := hA4.mono s5
  have hpd5 := s5 _ hpd4
  clear hl5 s5 L4 hys4 hF4 hA4 hpd4 hdd
  refine Go.fn fun F5 => ?_
  have sN : SubN l5 (noCells l5) := fun p hp n => mem_noCells.mpr ⟨hp, n⟩
  have sF := two_fixed F5 L5.tab
  have sFN : ∀ p ∈ fixedOf l5, p ∈ noCells l5 := fun p hp => (mem_without.mp hp).1
  have B : LawB prog w (noCells l5) ts d2 (ansF ns) pd an fo := ⟨fun p hp => (mem_noCells.mp hp).2, ⟨ys, k9, sN _ hpd5 nc_lst, hys5.mono fun v x h => h.nc (SubN.two sN)⟩, hA5.nc (SubN.two sN), hF5.nc (SubN.two sN), hO, n2, by omega⟩
  refine law_5 C B (fun p hp => (mem_noCells.mp hp).1) L5.cells nm ?_
  intro m6 l6 v26 v36 s6 c6 nm6
  have hdd6 := s6 _ (sN _ hdd5 nc_lst)
  have TBN : (191, tabObj (trip []).toArray) ∈ noCells l5 := sN _ L5.tab.hm (fun v e => nomatch e)
  have hF2 := hF5.nc sF
  have hys2 : Two (LineAt (fixedOf l5)) ys ts := hys5.mono fun v x h => h.nc sF
  have hpd2 := sF _ hpd5 nc_lst nf_lst
  have nt2 : ∀ p ∈ fixedOf l5, p.1 ≠ 191 := fun p hp => (mem_without.mp hp).2
  have ncN := B.nc
  clear B hF5 hys5 hpd5 hA5 sF sN L5 F5 hdd5
  generalize fixedOf l5 = lb at *
  generalize noCells l5 = lN at *
  cases hF2 with
  | @mk f its dv vw vf vh n nd rows pl oPl oP oL oF kvPl _ a0 a1 a2 a3 a4 a5 a6 a7 a8 a9 b1 b2 b3 b4 b5 G =>
  refine law_6 C ncN (a1.mono sFN) (sFN _ a2) (a3.mono sFN) a5 s6 c6 nm6 hdd6 ?_
  intro m7 l7 dd7 dvs kd7 v27 v37 s7 c7 nm7 hdd7 hvs7
  have TB7 : TabIn l7 qual [] := ⟨s7 _ TBN, fun q hq => nomatch hq⟩
  have L7 : LC c.L lb l7 qual [] (some (.ref bx)) v27 v37 (some (.ref f.o)) := ⟨fun p hp => s7 p (sFN p hp), c7, TB7⟩
  clear s6 c6 nm6 hdd6 s7 c7 TB7 TBN sFN ncN
  obtain ⟨kvP, gP1, gP2⟩ := G.pa
  obtain ⟨kvL, gL1, gL2⟩ := G.lo
  obtain ⟨kvF, gF1, gF2⟩ := G.fn
  have gD := G.da
  rw [gfold_data] at gD
  have hkk : kvPl.map (·.1) = ts.map (·.1) := by rw [two_keys a7, compL_keys a4 (by simpa using n2)]; rfl
  have hkl : kvPl.length = ts.length := by have := congrArg List.length hkk; simpa using this
  have hnx := compL_nx a4 hO (fun _ _ _ h => nomatch h)
  refine Go.fn fun F7 => ?_
  refine law_7 C (fun p hp => ⟨L7.sub p hp, nt2 p hp⟩) a1 a8 gD hdd7 hvs7 a6 hkk n1 (fun e => by rw [e] at hkl; simp at hkl; omega) (by omega) (valueAt_none (by rw [hkk]; exact n3)) hpd2 hys2 (by omega) L7.cells nm7 L7.tab hq ?_
  intro l8 xs8 hk8 ht8
  have L8 := L7.keep F7 nt2 hk8 ht8
  clear L7 F7 hdd7 hvs7 hk8 ht8 nm7
  refine law_8 C (a1.mono L8.sub) (L8.sub _ a2) (a3.mono L8.sub) a5 hnx L8.cells ?_
  intro dP dL l1 l9x B9 l9 s9 hB loP loL
  cases hB with
  | @mk oP2 oL2 imm1 kvP2 kvL2 p1 p2 p3 p4 p5 p6 p7 =>
  have L9 := L8.mono fun p hp => s9 p (List.mem_append_right _ hp)
  have dP9 : (dP, oP2) ∈ l9 := s9 _ (List.mem_append_left _ (.head _))
  have dL9 : (dL, oL2) ∈ l9 := s9 _ (List.mem_append_left _ (.tail _ (.head _)))
  have im9 : ∀ p ∈ imm1, p ∈ l9 := fun p hp => s9 _ (List.mem_append_left _ (.tail _ (.tail _ (List.mem_append_left _ hp))))
  have p4' : Two (KV (PairV l9)) kvL2 _ := p4.mono fun a b h => ⟨h.1, h.2.mono im9⟩
  have gL3 : Two (KV (PairV l9)) kvL _ := gL2.mono fun a b h => ⟨h.1, h.2.mono L9.sub⟩
  clear L8 s9 p4 im9
  refine law_9 C (a1.mono L9.sub) L9.cells ((if_neg (by decide +kernel)).trans (if_pos rfl)) (if_pos rfl) (L9.sub _ a9) gP1 gP2 b3 dP9 p1 p3 loP (pairs_same rows) (L9.sub _ b1) gL1 gL3 b4 dL9 p2 p4' loL (loops_same rows) ?_
  refine Go.fn fun F9 => ?_
  have sF := two_fixed F9 L9.tab
  have up : Sub2 lb (fixedOf l9) := fun p hp n f => sF p (L9.sub p hp) n f
  have L10 : LC c.L (fixedOf l9) l9 qual xs8 (some (.ref bx)) v27 v37 (some (.ref f.o)) := ⟨fun p hp => (mem_fixed.mp hp).1.1, L9.cells, L9.tab⟩
  refine law_10 C (fun p hp => (mem_fixed.mp hp).1.2) (fun p hp => (mem_fixed.mp hp).2) (a1.nc up) (up _ a2 nc_lst nf_lst) (a3.nc up) a5 ⟨up _ a9 (nc_dict gP1) (nf_dict gP1), gP1, b3⟩ gP2 ⟨sF _ dP9 (nc_dict p1) (nf_dict p1), p1, loP⟩ p3 (pairs_same rows) ⟨up _ b1 (nc_dict gL1) (nf_dict gL1), gL1, b4⟩ (gL3.mono fun a b h => ⟨h.1, h.2.nc sF⟩) ⟨sF _ dL9 (nc_dict p2) (nf_dict p2), p2, loL⟩ (p4'.mono fun a b h => ⟨h.1, h.2.nc sF⟩) (loops_same rows) L10 ((if_neg (by decide +kernel)).trans (if_pos rfl)) (if_pos rfl) hq ?_
  intro m11 l11 xs11 v211 v311 L11
  have up11 : Sub2 lb l11 := fun p hp n f => L11.sub p (up p hp n f)
  have hbF := up11 _ b2 (nc_dict gF1) (nf_dict gF1)
  obtain ⟨o4, ho4, hd4⟩ := L11.cells.c4
  refine law_11 C (a1.nc up11) (up11 _ a2 nc_lst nf_lst) (a3.nc up11) a5 ho4 hd4 ?_
  intro D ys12 kk12 l12 s12 hD12 hys12
  exact law_12 C ((a1.nc up11).mono s12) (s12 _ ho4) hd4 a5 (if_pos rfl) hD12 hys12 (s12 _ hbF) gF1 gF2 b5 fun l13 s13 => k _ l13 xs11 ⟨s13 _ (s12 _ L11.tab.hm), fun q hq => (L11.tab.hc q hq).sub fun p hp _ => s13 p (s12 p hp)⟩
end
noncomputable abbrev lawCells (L : Addr) : List (Str × Addr) := [(Str.ofString "flat", L + 4), (Str.ofString "line", L + 3), (Str.ofString "at", L + 2), (Str.ofString "box", L + 1)]
theorem two_ints {vs : List Value} {ns : List Int} (h : IntsAre vs ns) : Two (fun v x => IntV x v) vs ns := by
  induction h with
  | nil => exact .nil
  | cons _ _ _ ih => exact .cons ⟨_, rfl⟩ ih
theorem law_run {prog : Program} {w : World} {p : Program} {loose : List Str} {mean : ExcName → Option Value} {mg mb : Str → Option Value} {h₀ h : Heap} {L fa S : Addr} {m : Nm} {o4 o3 o2 o1 : Obj} {s : Shared} {tk : Tok} {vs : List Value} {ns : List Int} {Q : Flow → Shared → Prop} {E : Value → Shared → Prop}
    (PO : ProgOk prog) (B : Below callerA h₀ [] h₀) (X : (Mine.K w.params).In h₀) (T : Top p loose mean mg mb h₀) (F : Fr h₀ L h m) (N : News h₀ L h [(L + 1 + 1 + 1 + 1, o4), (L + 1 + 1 + 1, o3), (L + 1 + 1, o2), (L + 1, o1), (191, tabObj #[])])
    (d4 : o4.data = .cell none) (d3 : o3.data = .cell none) (d2 : o2.data = .cell none) (d1 : o1.data = .cell none) (C : CodeHd h₀ 193 191) (hm : m (Str.ofString "script") = some (.ref S)) (hl : h₀.IsList S vs.toArray) (hI : IntsAre vs ns) (hz : ns.length ≤ 63)
    (hQ : ∀ h' tk' m', Fr h₀ L h' m' → GrownAt 191 h' → Q (.ret (.bool true)) { s with heap := h', toks := tk' }) :
    wpAny (model prog w) (callerA.deeper (envX (Str.ofString "law") lawScope L fa (.ref 193) (lawCells L))) (execs [lawSt0, lawSt1, lawSt2, lawSt3, lawSt4, lawSt5, lawSt6, lawSt7, lawSt8, lawSt9, lawSt10, lawSt11, lawSt12] (envX (Str.ofString "law") lawScope L fa (.ref 193) (lawCells L))) Q E { s with heap := h, toks := tk } := by
  let c : Wc prog w := ⟨p, loose, mean, mg, mb, callerA.depth + 1, callerA.units + 3, callerA.guards, Str.ofString "law", lawScope, L, fa, .ref 193, lawCells L, [], callerA, h₀, h₀, s, envX (Str.ofString "law") lawScope L fa (.ref 193) (lawCells L)⟩
  have W : c.Okf lawScope := ⟨⟨B, X, T, rfl, rfl⟩, rfl⟩
  have LC9 : LawC c := ⟨W, rfl, rfl, X, T, C, rfl, rfl, by show callerA.depth + 1 + 200 < recursionLimit; decide, by show callerA.units + 3 + 5000 < cLine; decide, PO⟩
  have key := law_body (c := c) (m := m) (l := [(L + 4, o4), (L + 3, o3), (L + 2, o2), (L + 1, o1), (191, tabObj #[])]) (Q := Q) (S := S) (its := vs.toArray) (xs := ns) (qual := Str.ofString "law.<locals>.<lambda>") LC9 (fun l h H => ?_) (two_ints hI) ?_ hm ?_ ⟨.tail _ (.tail _ (.tail _ (.tail _ (.head _)))), fun q hq => nomatch hq⟩ ?_ ?_
  · exact key.run h tk E ⟨F, N⟩
  · obtain ⟨o, ho, r⟩ := hl
    exact ⟨o, H.F.keep _ _ ho, r⟩
  · have := hI.length
    rw [List.size_toArray]
    omega
  · exact ⟨⟨o1, .tail _ (.tail _ (.tail _ (.head _))), d1⟩, ⟨o2, .tail _ (.tail _ (.head _)), d2⟩, ⟨o3, .tail _ (.head _), d3⟩, ⟨o4, .head _, d4⟩⟩
  · show Str.ofString "law" ++ Str.ofString ".<locals>." ++ Str.ofString "<lambda>" = _
    decide +kernel
  · exact fun m' l' xs' TB => .mk fun h' tk' H => hQ h' tk' m' H.F (GrownAt.of H.N TB.hm)
theorem prog_ok : ProgOk PySem.Challenge.rw_pc0003_01.row.prog := ⟨by decide +kernel, by decide +kernel⟩
set_option maxHeartbeats 4000000 in
theorem said0 : PySem.Challenge.rw_pc0003_01.wellSaid = true := by
  unfold OpenLaw.wellSaid
  repeat' (with_reducible refine look_both ?_ ?_)
  all_goals try (unfold OpenRow.wellSaid; repeat' (with_reducible refine look_both ?_ ?_))
  all_goals try (unfold OpenRow.partSaid; repeat' (with_reducible refine look_both ?_ ?_))
  all_goals try (unfold looksOpen; repeat' (with_reducible refine look_both ?_ ?_))
  all_goals decide +kernel
end Mine
open Mine
set_option maxRecDepth 100000 in
set_option maxHeartbeats 8000000 in
theorem PySem.Challenge.cw_pc0003_01_holds : PySem.Challenge.rw_pc0003_01.Holds := by
  refine holds_law said0 fun said => ?_
  refine holds_open (r := PySem.Challenge.rw_pc0003_01.row) (q := vw) (loose := [Str.ofString "BasicError"]) (Xt := (fun s => xlAt vw [] s && recOk PySem.Challenge.rw_pc0003_01.row.records s)) (XP := XL vw []) (Yf := hk.obs) (Ya := hk.val) (YP := hk.says) (N := 2380) left hk.of hk.keeps (fun s e => xl_of s (Bool.and_eq_true_iff.mp e).1) XL.keeps (by rfl) (by rfl) (by rfl) (fun s e => recFacts_of (Bool.and_eq_true_iff.mp e).2) (by rfl) said (by decide +kernel) ⟨rfl, rfl, rfl, rfl, rfl, by decide +kernel⟩ ?hw ?hc
  case hw => w_witness2
  intro w s₀ s₁ mg mb G Y fa o pm cd doc dV kV ho hd hcd hD hmg hg args vals as hpre hlay hrd hwl hlo
  have Y' : (kmHook K adrs adrs_K [191]).says w s₁.heap := Y
  have KX := km_in_of Y'
  km_tabs Y'
  have X := (Ground.X G).1
  have V := (Ground.X G).2
  refine Ground.open G ?_
  intro T B D TE TW
  try (refine guard_noD D (by decide +kernel) ?_; clear D)
  km_lay T hmg ho hd cd
  clear hmg
  wrow_args hpre hlay hrd hwl hlo
  all_goals (
    first | refine callC_kw (enter_call ?_) | refine enter_call ?_
    w_top on
    kn_posts
    w_call any ho hd hcd hD T F
    clear hd
    kn_ghosts F T
    k_drop
    skip)
  all_goals (
    rename_i e4 e3 e2 e1 X0 X' T' K' F' N' l0
    rename IntsAre _ _ => hI
    refine law_run (o4 := _) (o3 := _) (o2 := _) (o1 := _) prog_ok K' X' T' F' N' (e4.trans rfl) (e3.trans rfl) (e2.trans rfl) (e1.trans rfl) codeHd rfl lifted hI (by omega) ?_
    intro h' tk' m' F8 G8
    exact ⟨⟨.inl ⟨.bool true, .bool true, [], rfl, fun _ => rfl, .bool true, (by first | kc_post | wrow_post), fun _ => ⟨List.nodup_nil, fun a h => nomatch h⟩⟩, fun b o e => F8.keep b o e, rfl, hg⟩, G8, trivial⟩)
