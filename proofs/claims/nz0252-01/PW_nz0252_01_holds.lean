import PyProof.Rows.All
import Wide.All
import OpenK.AllK
import Wide.FinOn
import PyProof.IsiH_list
import PySem.Challenge.RW_nz0252_01
open PySem PySem.W PyProof.Rows PySem.Calls PySem.Spec
set_option Elab.async false
set_option maxRecDepth 100000
set_option maxHeartbeats 8000000
set_option linter.all false
set_option compiler.extract_closed false
namespace Mine
local macro_rules | `(tactic| walk_at "callWith") => `(tactic| ((with_reducible refine' callWith_method1 (he := ?ha) (hplain := ?hb) ?_); (case ha => rfl); (case hb => rfl)))
section
/-- the parts of the def at a place of the text -/
def fdAt (i : Nat) : Option (Arguments × List Stmt × Scope) := match PySem.Challenge.pw_nz0252_01.main.body[i]? with
  | some (.FunctionDef _ a b _ _ _ s _ _ _) => some (a, b, s)
  | _ => none
def mdAt (i j : Nat) : Option (Arguments × List Stmt × Scope) := match PySem.Challenge.pw_nz0252_01.main.body[i]? with
  | some (.ClassDef _ _ _ b _ _ _ _ _ _ _) => match b[j]? with
    | some (.FunctionDef _ a b _ _ _ s _ _ _) => some (a, b, s)
    | _ => none
  | _ => none
/-- the part of the heap behind the top that the proof speaks of; the defs' own parts are read off the text -/
noncomputable def hd.heap_39 : Params → Frag := fun P => (fun (p0 : Arguments) (b0 : List Stmt) (s0 : Scope) (_ : fdAt 0 = some (p0, b0, s0))
    (p1 : Arguments) (b1 : List Stmt) (s1 : Scope) (_ : mdAt 2 0 = some (p1, b1, s1))
    (p2 : Arguments) (b2 : List Stmt) (s2 : Scope) (_ : fdAt 11 = some (p2, b2, s2))
    (p3 : Arguments) (b3 : List Stmt) (s3 : Scope) (_ : mdAt 12 0 = some (p3, b3, s3))
    (p4 : Arguments) (b4 : List Stmt) (s4 : Scope) (_ : mdAt 13 0 = some (p4, b4, s4))
    (p5 : Arguments) (b5 : List Stmt) (s5 : Scope) (_ : mdAt 13 1 = some (p5, b5, s5))
    (p6 : Arguments) (b6 : List Stmt) (s6 : Scope) (_ : mdAt 13 2 = some (p6, b6, s6))
    (p7 : Arguments) (b7 : List Stmt) (s7 : Scope) (_ : mdAt 13 3 = some (p7, b7, s7))
    (p8 : Arguments) (b8 : List Stmt) (s8 : Scope) (_ : mdAt 13 4 = some (p8, b8, s8))
    (p9 : Arguments) (b9 : List Stmt) (s9 : Scope) (_ : mdAt 13 5 = some (p9, b9, s9))
    (p10 : Arguments) (b10 : List Stmt) (s10 : Scope) (_ : mdAt 13 6 = some (p10, b10, s10))
    (p11 : Arguments) (b11 : List Stmt) (s11 : Scope) (_ : mdAt 13 7 = some (p11, b11, s11))
    (p12 : Arguments) (b12 : List Stmt) (s12 : Scope) (_ : fdAt 14 = some (p12, b12, s12))
    (p13 : Arguments) (b13 : List Stmt) (s13 : Scope) (_ : fdAt 15 = some (p13, b13, s13))
    (p14 : Arguments) (b14 : List Stmt) (s14 : Scope) (_ : fdAt 16 = some (p14, b14, s14))
    (p15 : Arguments) (b15 : List Stmt) (s15 : Scope) (_ : fdAt 17 = some (p15, b15, s15))
    (p16 : Arguments) (b16 : List Stmt) (s16 : Scope) (_ : fdAt 18 = some (p16, b16, s16))
    (p17 : Arguments) (b17 : List Stmt) (s17 : Scope) (_ : mdAt 20 0 = some (p17, b17, s17))
    (p18 : Arguments) (b18 : List Stmt) (s18 : Scope) (_ : mdAt 21 0 = some (p18, b18, s18))
    (p19 : Arguments) (b19 : List Stmt) (s19 : Scope) (_ : mdAt 22 0 = some (p19, b19, s19))
    (p20 : Arguments) (b20 : List Stmt) (s20 : Scope) (_ : mdAt 24 0 = some (p20, b20, s20))
    (p21 : Arguments) (b21 : List Stmt) (s21 : Scope) (_ : mdAt 24 1 = some (p21, b21, s21))
    (p22 : Arguments) (b22 : List Stmt) (s22 : Scope) (_ : mdAt 24 2 = some (p22, b22, s22))
    (p23 : Arguments) (b23 : List Stmt) (s23 : Scope) (_ : fdAt 26 = some (p23, b23, s23))
    (p24 : Arguments) (b24 : List Stmt) (s24 : Scope) (_ : fdAt 27 = some (p24, b24, s24))
    (p25 : Arguments) (b25 : List Stmt) (s25 : Scope) (_ : fdAt 28 = some (p25, b25, s25))
    (p26 : Arguments) (b26 : List Stmt) (s26 : Scope) (_ : fdAt 29 = some (p26, b26, s26))
    (p27 : Arguments) (b27 : List Stmt) (s27 : Scope) (_ : fdAt 31 = some (p27, b27, s27))
    (p28 : Arguments) (b28 : List Stmt) (s28 : Scope) (_ : fdAt 32 = some (p28, b28, s28))
    (p29 : Arguments) (b29 : List Stmt) (s29 : Scope) (_ : fdAt 33 = some (p29, b29, s29))
    (p30 : Arguments) (b30 : List Stmt) (s30 : Scope) (_ : fdAt 34 = some (p30, b30, s30))
    (p31 : Arguments) (b31 : List Stmt) (s31 : Scope) (_ : fdAt 35 = some (p31, b31, s31))
    (p32 : Arguments) (b32 : List Stmt) (s32 : Scope) (_ : fdAt 36 = some (p32, b32, s32))
    (p33 : Arguments) (b33 : List Stmt) (s33 : Scope) (_ : fdAt 37 = some (p33, b33, s33))
    (p34 : Arguments) (b34 : List Stmt) (s34 : Scope) (_ : fdAt 38 = some (p34, b34, s34))
    (p35 : Arguments) (b35 : List Stmt) (s35 : Scope) (_ : fdAt 39 = some (p35, b35, s35))
    (p36 : Arguments) (b36 : List Stmt) (s36 : Scope) (_ : fdAt 40 = some (p36, b36, s36))
    (p37 : Arguments) (b37 : List Stmt) (s37 : Scope) (_ : fdAt 41 = some (p37, b37, s37))
    (p38 : Arguments) (b38 : List Stmt) (s38 : Scope) (_ : fdAt 42 = some (p38, b38, s38))
    (p39 : Arguments) (b39 : List Stmt) (s39 : Scope) (_ : fdAt 43 = some (p39, b39, s39))
    (p40 : Arguments) (b40 : List Stmt) (s40 : Scope) (_ : fdAt 44 = some (p40, b40, s40)) => ((nat_lit 2, { cls := .none, dict := (none : Option Nat), data := .dict #[{ hash := PyData.keyHash P (Str.ofString "type.__subclasses__.Exception.0"), key := .str (Str.ofString "type.__subclasses__.Exception.0") (221 : Nat), val := .int 38 (0 : Nat) }, { hash := PyData.keyHash P (Str.ofString "type.__subclasses__.Exception.n"), key := .str (Str.ofString "type.__subclasses__.Exception.n") (222 : Nat), val := .int 1 (0 : Nat) }] 2 }) ::
    (nat_lit 3, { cls := .type "dict", dict := (none : Option Nat), data := .dict (List.toArray ({ hash := PyData.keyHash P (Str.ofString "__name__"), key := .str (Str.ofString "__name__") (165 : Nat), val := .str (Str.ofString "law_nz0252_01") (684 : Nat) } :: { hash := PyData.keyHash P (Str.ofString "__doc__"), key := .str (Str.ofString "__doc__") (166 : Nat), val := .none } :: { hash := PyData.keyHash P (Str.ofString "__package__"), key := .str (Str.ofString "__package__") (167 : Nat), val := .none } :: { hash := PyData.keyHash P (Str.ofString "__loader__"), key := .str (Str.ofString "__loader__") (168 : Nat), val := .builtin "__main__.__loader__#opaque" } :: { hash := PyData.keyHash P (Str.ofString "__spec__"), key := .str (Str.ofString "__spec__") (169 : Nat), val := .none } :: { hash := PyData.keyHash P (Str.ofString "__annotations__"), key := .str (Str.ofString "__annotations__") (170 : Nat), val := .ref (6 : Nat) } :: { hash := PyData.keyHash P (Str.ofString "__builtins__"), key := .str (Str.ofString "__builtins__") (171 : Nat), val := .ref (4 : Nat) } :: { hash := PyData.keyHash P (Str.ofString "__file__"), key := .str (Str.ofString "__file__") (173 : Nat), val := .str (Str.ofString "/claim/cut.py") (172 : Nat) } :: { hash := PyData.keyHash P (Str.ofString "__cached__"), key := .str (Str.ofString "__cached__") (174 : Nat), val := .none } :: { hash := PyData.keyHash P (Str.ofString "_wall"), key := .str (Str.ofString "_wall") (193 : Nat), val := .ref (21 : Nat) } :: { hash := PyData.keyHash P (Str.ofString "PressError"), key := .str (Str.ofString "PressError") (224 : Nat), val := .ref (38 : Nat) } :: { hash := PyData.keyHash P (Str.ofString "FrameError"), key := .str (Str.ofString "FrameError") (240 : Nat), val := .ref (51 : Nat) } :: { hash := PyData.keyHash P (Str.ofString "ScanError"), key := .str (Str.ofString "ScanError") (256 : Nat), val := .ref (63 : Nat) } :: { hash := PyData.keyHash P (Str.ofString "KINDS"), key := .str (Str.ofString "KINDS") (295 : Nat), val := .ref (78 : Nat) } :: { hash := PyData.keyHash P (Str.ofString "MOST_SIZE"), key := .str (Str.ofString "MOST_SIZE") (297 : Nat), val := .int 65535 (296 : Nat) } :: { hash := PyData.keyHash P (Str.ofString "MOST_COMPONENTS"), key := .str (Str.ofString "MOST_COMPONENTS") (299 : Nat), val := .int 255 (298 : Nat) } :: { hash := PyData.keyHash P (Str.ofString "MOST_SAMPLING"), key := .str (Str.ofString "MOST_SAMPLING") (301 : Nat), val := .int 4 (300 : Nat) } :: { hash := PyData.keyHash P (Str.ofString "MOST_SLOT"), key := .str (Str.ofString "MOST_SLOT") (303 : Nat), val := .int 3 (302 : Nat) } :: { hash := PyData.keyHash P (Str.ofString "parts"), key := .str (Str.ofString "parts") (311 : Nat), val := .ref (85 : Nat) } :: { hash := PyData.keyHash P (Str.ofString "Component"), key := .str (Str.ofString "Component") (346 : Nat), val := .ref (102 : Nat) } :: { hash := PyData.keyHash P (Str.ofString "Frame"), key := .str (Str.ofString "Frame") (439 : Nat), val := .ref (168 : Nat) } :: { hash := PyData.keyHash P (Str.ofString "kind_row"), key := .str (Str.ofString "kind_row") (447 : Nat), val := .ref (179 : Nat) } :: { hash := PyData.keyHash P (Str.ofString "kind_of_code"), key := .str (Str.ofString "kind_of_code") (455 : Nat), val := .ref (186 : Nat) } :: { hash := PyData.keyHash P (Str.ofString "check_component"), key := .str (Str.ofString "check_component") (462 : Nat), val := .ref (193 : Nat) } :: { hash := PyData.keyHash P (Str.ofString "check_frame"), key := .str (Str.ofString "check_frame") (471 : Nat), val := .ref (200 : Nat) } :: { hash := PyData.keyHash P (Str.ofString "place_of"), key := .str (Str.ofString "place_of") (480 : Nat), val := .ref (207 : Nat) } :: { hash := PyData.keyHash P (Str.ofString "ComponentHead"), key := .str (Str.ofString "ComponentHead") (517 : Nat), val := .ref (224 : Nat) } :: { hash := PyData.keyHash P (Str.ofString "FrameHead"), key := .str (Str.ofString "FrameHead") (554 : Nat), val := .ref (245 : Nat) } :: { hash := PyData.keyHash P (Str.ofString "ScanHead"), key := .str (Str.ofString "ScanHead") (595 : Nat), val := .ref (266 : Nat) } :: { hash := PyData.keyHash P (Str.ofString "Scan"), key := .str (Str.ofString "Scan") (652 : Nat), val := .ref (301 : Nat) } :: { hash := PyData.keyHash P (Str.ofString "frame_from_head"), key := .str (Str.ofString "frame_from_head") (660 : Nat), val := .ref (310 : Nat) } :: { hash := PyData.keyHash P (Str.ofString "frame_to_head"), key := .str (Str.ofString "frame_to_head") (666 : Nat), val := .ref (315 : Nat) } :: { hash := PyData.keyHash P (Str.ofString "scan_from_head"), key := .str (Str.ofString "scan_from_head") (677 : Nat), val := .ref (322 : Nat) } :: { hash := PyData.keyHash P (Str.ofString "scan_to_head"), key := .str (Str.ofString "scan_to_head") (683 : Nat), val := .ref (327 : Nat) } :: { hash := PyData.keyHash P (Str.ofString "_law_pool"), key := .str (Str.ofString "_law_pool") (696 : Nat), val := .ref (334 : Nat) } :: { hash := PyData.keyHash P (Str.ofString "_law_take"), key := .str (Str.ofString "_law_take") (705 : Nat), val := .ref (341 : Nat) } :: { hash := PyData.keyHash P (Str.ofString "_law_one"), key := .str (Str.ofString "_law_one") (713 : Nat), val := .ref (348 : Nat) } :: { hash := PyData.keyHash P (Str.ofString "_law_kinds"), key := .str (Str.ofString "_law_kinds") (720 : Nat), val := .ref (355 : Nat) } :: { hash := PyData.keyHash P (Str.ofString "_law_frame_rows"), key := .str (Str.ofString "_law_frame_rows") (733 : Nat), val := .ref (362 : Nat) } :: { hash := PyData.keyHash P (Str.ofString "_law_is_let"), key := .str (Str.ofString "_law_is_let") (739 : Nat), val := .ref (367 : Nat) } :: { hash := PyData.keyHash P (Str.ofString "_law_head"), key := .str (Str.ofString "_law_head") (745 : Nat), val := .ref (372 : Nat) } :: { hash := PyData.keyHash P (Str.ofString "_law_rows"), key := .str (Str.ofString "_law_rows") (751 : Nat), val := .ref (377 : Nat) } :: { hash := PyData.keyHash P (Str.ofString "_law_frame_right"), key := .str (Str.ofString "_law_frame_right") (762 : Nat), val := .ref (384 : Nat) } :: { hash := PyData.keyHash P (Str.ofString "_law_scan_rows"), key := .str (Str.ofString "_law_scan_rows") (768 : Nat), val := .ref (389 : Nat) } :: { hash := PyData.keyHash P (Str.ofString "_law_scan_head"), key := .str (Str.ofString "_law_scan_head") (775 : Nat), val := .ref (396 : Nat) } :: { hash := PyData.keyHash P (Str.ofString "_law_told"), key := .str (Str.ofString "_law_told") (782 : Nat), val := .ref (403 : Nat) } :: { hash := PyData.keyHash P (Str.ofString "_law_scan_right"), key := .str (Str.ofString "_law_scan_right") (788 : Nat), val := .ref (408 : Nat) } :: { hash := PyData.keyHash P (Str.ofString "law"), key := .str (Str.ofString "law") (801 : Nat), val := .ref (415 : Nat) } :: [])) 48 }) ::
    (nat_lit 15, { cls := .type "tuple", dict := (none : Option Nat), data := .seq #[] }) ::
    (nat_lit 17, { cls := .type "tuple", dict := (none : Option Nat), data := .seq #[.str (Str.ofString "k") (190 : Nat)] }) ::
    (nat_lit 18, { cls := .type "tuple", dict := (none : Option Nat), data := .seq #[] }) ::
    (nat_lit 20, { cls := .type "code", dict := (none : Option Nat), data := .fields #[.str (Str.ofString "_wall") (187 : Nat), .str (Str.ofString "_wall") (188 : Nat), .str (Str.ofString "/claim/cut.py") (189 : Nat), .int 1 (0 : Nat), .int 1 (0 : Nat), .int 0 (0 : Nat), .int 0 (0 : Nat), .int 3 (0 : Nat), .ref (15 : Nat), .bool true, .int 181 (0 : Nat), .ref (16 : Nat), .none, .ref (17 : Nat), .ref (18 : Nat), .ref (19 : Nat), .int 191 (0 : Nat), .int 1 (0 : Nat), .str (Str.ofString "/claim/cut.py") (192 : Nat)] }) ::
    (nat_lit 21, { cls := .type "function", dict := (none : Option Nat), data := .func { name := Str.ofString "_wall", qualname := Str.ofString "_wall", params := p0, body := .stmts b0, scope := s0, globals := (3 : Nat), closure := ([] : List (Str × Nat)), defaults := .none, kwdefaults := .none, annotations := (none : Option Nat), builtins := (0 : Nat), pyModule := .str (Str.ofString "__main__") (164 : Nat), code := .ref (20 : Nat) } }) ::
    (nat_lit 22, { cls := .type "tuple", dict := (none : Option Nat), data := .seq #[.type "Exception"] }) ::
    (nat_lit 29, { cls := .type "tuple", dict := (none : Option Nat), data := .seq #[] }) ::
    (nat_lit 31, { cls := .type "tuple", dict := (none : Option Nat), data := .seq #[.str (Str.ofString "self") (211 : Nat), .str (Str.ofString "message") (212 : Nat)] }) ::
    (nat_lit 32, { cls := .type "tuple", dict := (none : Option Nat), data := .seq #[] }) ::
    (nat_lit 34, { cls := .type "code", dict := (none : Option Nat), data := .fields #[.str (Str.ofString "__init__") (208 : Nat), .str (Str.ofString "PressError.__init__") (209 : Nat), .str (Str.ofString "/claim/cut.py") (210 : Nat), .int 7 (0 : Nat), .int 2 (0 : Nat), .int 0 (0 : Nat), .int 0 (0 : Nat), .int 3 (0 : Nat), .ref (29 : Nat), .bool true, .int 181 (0 : Nat), .ref (30 : Nat), .none, .ref (31 : Nat), .ref (32 : Nat), .ref (33 : Nat), .int 213 (0 : Nat), .int 7 (0 : Nat), .str (Str.ofString "/claim/cut.py") (214 : Nat)] }) ::
    (nat_lit 35, { cls := .type "function", dict := (none : Option Nat), data := .func { name := Str.ofString "__init__", qualname := Str.ofString "PressError.__init__", params := p1, body := .stmts b1, scope := s1, globals := (3 : Nat), closure := ([] : List (Str × Nat)), defaults := .none, kwdefaults := .none, annotations := (none : Option Nat), builtins := (0 : Nat), pyModule := .str (Str.ofString "pixelpress.errors") (194 : Nat), code := .ref (34 : Nat) } }) ::
    (nat_lit 36, { cls := .type "tuple", dict := (none : Option Nat), data := .seq #[.str (Str.ofString "message") (216 : Nat)] }) ::
    (nat_lit 37, { cls := .type "dict", dict := (none : Option Nat), data := .dict #[{ hash := PyData.keyHash P (Str.ofString "__module__"), key := .str (Str.ofString "__module__") (203 : Nat), val := .str (Str.ofString "pixelpress.errors") (194 : Nat) }, { hash := PyData.keyHash P (Str.ofString "__firstlineno__"), key := .str (Str.ofString "__firstlineno__") (207 : Nat), val := .int 5 (206 : Nat) }, { hash := PyData.keyHash P (Str.ofString "__init__"), key := .str (Str.ofString "__init__") (215 : Nat), val := .ref (35 : Nat) }, { hash := PyData.keyHash P (Str.ofString "__static_attributes__"), key := .str (Str.ofString "__static_attributes__") (217 : Nat), val := .ref (36 : Nat) }, { hash := PyData.keyHash P (Str.ofString "__weakref__"), key := .str (Str.ofString "__weakref__") (219 : Nat), val := .ref (39 : Nat) }, { hash := PyData.keyHash P (Str.ofString "__doc__"), key := .str (Str.ofString "__doc__") (220 : Nat), val := .none }] 3 }) ::
    (nat_lit 38, { cls := .type "type", dict := (none : Option Nat), data := .cls { name := Str.ofString "PressError", bases := [.type "Exception"], mro := [.ref (38 : Nat), .type "Exception", .type "BaseException", .type "object"], ns := (37 : Nat), qualname := Str.ofString "PressError", subclasses := [.ref (51 : Nat), .ref (63 : Nat)] }, slots := #[some (.ref (22 : Nat)), none, some (.str (Str.ofString "PressError") (196 : Nat)), some (.str (Str.ofString "PressError") (204 : Nat)), some (.builtin "Exception.__new__"), some (.bool true)] }) ::
    (nat_lit 39, { cls := .type "getset_descriptor", dict := (none : Option Nat), data := .fields #[.str (Str.ofString "__weakref__") (218 : Nat), .ref (38 : Nat), .builtin "ExceptionGroup.__weakref__", .none] }) ::
    (nat_lit 42, { cls := .type "tuple", dict := (none : Option Nat), data := .seq #[.ref (38 : Nat)] }) ::
    (nat_lit 49, { cls := .type "tuple", dict := (none : Option Nat), data := .seq #[] }) ::
    (nat_lit 50, { cls := .type "dict", dict := (none : Option Nat), data := .dict #[{ hash := PyData.keyHash P (Str.ofString "__module__"), key := .str (Str.ofString "__module__") (232 : Nat), val := .str (Str.ofString "pixelpress.errors") (194 : Nat) }, { hash := PyData.keyHash P (Str.ofString "__firstlineno__"), key := .str (Str.ofString "__firstlineno__") (236 : Nat), val := .int 10 (235 : Nat) }, { hash := PyData.keyHash P (Str.ofString "__static_attributes__"), key := .str (Str.ofString "__static_attributes__") (237 : Nat), val := .ref (49 : Nat) }, { hash := PyData.keyHash P (Str.ofString "__doc__"), key := .str (Str.ofString "__doc__") (238 : Nat), val := .none }] 2 }) ::
    (nat_lit 51, { cls := .type "type", dict := (none : Option Nat), data := .cls { name := Str.ofString "FrameError", bases := [.ref (38 : Nat)], mro := [.ref (51 : Nat), .ref (38 : Nat), .type "Exception", .type "BaseException", .type "object"], ns := (50 : Nat), qualname := Str.ofString "FrameError" }, slots := #[some (.ref (42 : Nat)), none, some (.str (Str.ofString "FrameError") (225 : Nat)), some (.str (Str.ofString "FrameError") (233 : Nat)), some (.builtin "Exception.__new__"), some (.bool true)] }) ::
    (nat_lit 54, { cls := .type "tuple", dict := (none : Option Nat), data := .seq #[.ref (38 : Nat)] }) ::
    (nat_lit 61, { cls := .type "tuple", dict := (none : Option Nat), data := .seq #[] }) ::
    (nat_lit 62, { cls := .type "dict", dict := (none : Option Nat), data := .dict #[{ hash := PyData.keyHash P (Str.ofString "__module__"), key := .str (Str.ofString "__module__") (248 : Nat), val := .str (Str.ofString "pixelpress.errors") (194 : Nat) }, { hash := PyData.keyHash P (Str.ofString "__firstlineno__"), key := .str (Str.ofString "__firstlineno__") (252 : Nat), val := .int 12 (251 : Nat) }, { hash := PyData.keyHash P (Str.ofString "__static_attributes__"), key := .str (Str.ofString "__static_attributes__") (253 : Nat), val := .ref (61 : Nat) }, { hash := PyData.keyHash P (Str.ofString "__doc__"), key := .str (Str.ofString "__doc__") (254 : Nat), val := .none }] 2 }) ::
    (nat_lit 63, { cls := .type "type", dict := (none : Option Nat), data := .cls { name := Str.ofString "ScanError", bases := [.ref (38 : Nat)], mro := [.ref (63 : Nat), .ref (38 : Nat), .type "Exception", .type "BaseException", .type "object"], ns := (62 : Nat), qualname := Str.ofString "ScanError" }, slots := #[some (.ref (54 : Nat)), none, some (.str (Str.ofString "ScanError") (241 : Nat)), some (.str (Str.ofString "ScanError") (249 : Nat)), some (.builtin "Exception.__new__"), some (.bool true)] }) ::
    (nat_lit 66, { cls := .type "tuple", dict := (none : Option Nat), data := .seq #[.int 8 (261 : Nat)] }) ::
    (nat_lit 67, { cls := .type "tuple", dict := (none : Option Nat), data := .seq #[.str (Str.ofString "baseline") (259 : Nat), .int 192 (260 : Nat), .ref (66 : Nat)] }) ::
    (nat_lit 68, { cls := .type "tuple", dict := (none : Option Nat), data := .seq #[.int 8 (264 : Nat), .int 12 (265 : Nat)] }) ::
    (nat_lit 69, { cls := .type "tuple", dict := (none : Option Nat), data := .seq #[.str (Str.ofString "extended") (262 : Nat), .int 193 (263 : Nat), .ref (68 : Nat)] }) ::
    (nat_lit 70, { cls := .type "tuple", dict := (none : Option Nat), data := .seq #[.int 8 (268 : Nat), .int 12 (269 : Nat)] }) ::
    (nat_lit 71, { cls := .type "tuple", dict := (none : Option Nat), data := .seq #[.str (Str.ofString "progressive") (266 : Nat), .int 194 (267 : Nat), .ref (70 : Nat)] }) ::
    (nat_lit 72, { cls := .type "tuple", dict := (none : Option Nat), data := .seq #[.int 2 (272 : Nat), .int 3 (273 : Nat), .int 4 (274 : Nat), .int 5 (275 : Nat), .int 6 (276 : Nat), .int 7 (277 : Nat), .int 8 (278 : Nat), .int 9 (279 : Nat), .int 10 (280 : Nat), .int 11 (281 : Nat), .int 12 (282 : Nat), .int 13 (283 : Nat), .int 14 (284 : Nat), .int 15 (285 : Nat), .int 16 (286 : Nat)] }) ::
    (nat_lit 73, { cls := .type "tuple", dict := (none : Option Nat), data := .seq #[.str (Str.ofString "lossless") (270 : Nat), .int 195 (271 : Nat), .ref (72 : Nat)] }) ::
    (nat_lit 74, { cls := .type "tuple", dict := (none : Option Nat), data := .seq #[.int 8 (289 : Nat), .int 12 (290 : Nat)] }) ::
    (nat_lit 75, { cls := .type "tuple", dict := (none : Option Nat), data := .seq #[.str (Str.ofString "arith") (287 : Nat), .int 201 (288 : Nat), .ref (74 : Nat)] }) ::
    (nat_lit 76, { cls := .type "tuple", dict := (none : Option Nat), data := .seq #[.int 8 (293 : Nat), .int 12 (294 : Nat)] }) ::
    (nat_lit 77, { cls := .type "tuple", dict := (none : Option Nat), data := .seq #[.str (Str.ofString "arith progressive") (291 : Nat), .int 202 (292 : Nat), .ref (76 : Nat)] }) ::
    (nat_lit 78, { cls := .type "tuple", dict := (none : Option Nat), data := .seq #[.ref (67 : Nat), .ref (69 : Nat), .ref (71 : Nat), .ref (73 : Nat), .ref (75 : Nat), .ref (77 : Nat)] }) ::
    (nat_lit 79, { cls := .type "tuple", dict := (none : Option Nat), data := .seq #[] }) ::
    (nat_lit 81, { cls := .type "tuple", dict := (none : Option Nat), data := .seq #[.str (Str.ofString "many") (307 : Nat), .str (Str.ofString "size") (308 : Nat)] }) ::
    (nat_lit 82, { cls := .type "tuple", dict := (none : Option Nat), data := .seq #[] }) ::
    (nat_lit 84, { cls := .type "code", dict := (none : Option Nat), data := .fields #[.str (Str.ofString "parts") (304 : Nat), .str (Str.ofString "parts") (305 : Nat), .str (Str.ofString "/claim/cut.py") (306 : Nat), .int 20 (0 : Nat), .int 2 (0 : Nat), .int 0 (0 : Nat), .int 0 (0 : Nat), .int 3 (0 : Nat), .ref (79 : Nat), .bool true, .int 181 (0 : Nat), .ref (80 : Nat), .none, .ref (81 : Nat), .ref (82 : Nat), .ref (83 : Nat), .int 309 (0 : Nat), .int 20 (0 : Nat), .str (Str.ofString "/claim/cut.py") (310 : Nat)] }) ::
    (nat_lit 85, { cls := .type "function", dict := (none : Option Nat), data := .func { name := Str.ofString "parts", qualname := Str.ofString "parts", params := p2, body := .stmts b2, scope := s2, globals := (3 : Nat), closure := ([] : List (Str × Nat)), defaults := .none, kwdefaults := .none, annotations := (none : Option Nat), builtins := (0 : Nat), pyModule := .str (Str.ofString "pixelpress.frames") (257 : Nat), code := .ref (84 : Nat) } }) ::
    (nat_lit 93, { cls := .type "tuple", dict := (none : Option Nat), data := .seq #[] }) ::
    (nat_lit 95, { cls := .type "tuple", dict := (none : Option Nat), data := .seq #[.str (Str.ofString "self") (327 : Nat), .str (Str.ofString "ident") (328 : Nat), .str (Str.ofString "across") (329 : Nat), .str (Str.ofString "down") (330 : Nat), .str (Str.ofString "quant") (331 : Nat)] }) ::
    (nat_lit 96, { cls := .type "tuple", dict := (none : Option Nat), data := .seq #[] }) ::
    (nat_lit 98, { cls := .type "code", dict := (none : Option Nat), data := .fields #[.str (Str.ofString "__init__") (324 : Nat), .str (Str.ofString "Component.__init__") (325 : Nat), .str (Str.ofString "/claim/cut.py") (326 : Nat), .int 24 (0 : Nat), .int 5 (0 : Nat), .int 0 (0 : Nat), .int 0 (0 : Nat), .int 3 (0 : Nat), .ref (93 : Nat), .bool true, .int 181 (0 : Nat), .ref (94 : Nat), .none, .ref (95 : Nat), .ref (96 : Nat), .ref (97 : Nat), .int 332 (0 : Nat), .int 24 (0 : Nat), .str (Str.ofString "/claim/cut.py") (333 : Nat)] }) ::
    (nat_lit 99, { cls := .type "function", dict := (none : Option Nat), data := .func { name := Str.ofString "__init__", qualname := Str.ofString "Component.__init__", params := p3, body := .stmts b3, scope := s3, globals := (3 : Nat), closure := ([] : List (Str × Nat)), defaults := .none, kwdefaults := .none, annotations := (none : Option Nat), builtins := (0 : Nat), pyModule := .str (Str.ofString "pixelpress.frames") (257 : Nat), code := .ref (98 : Nat) } }) ::
    (nat_lit 100, { cls := .type "tuple", dict := (none : Option Nat), data := .seq #[.str (Str.ofString "across") (335 : Nat), .str (Str.ofString "down") (336 : Nat), .str (Str.ofString "ident") (337 : Nat), .str (Str.ofString "quant") (338 : Nat)] }) ::
    (nat_lit 101, { cls := .type "dict", dict := (none : Option Nat), data := .dict #[{ hash := PyData.keyHash P (Str.ofString "__module__"), key := .str (Str.ofString "__module__") (319 : Nat), val := .str (Str.ofString "pixelpress.frames") (257 : Nat) }, { hash := PyData.keyHash P (Str.ofString "__firstlineno__"), key := .str (Str.ofString "__firstlineno__") (323 : Nat), val := .int 22 (322 : Nat) }, { hash := PyData.keyHash P (Str.ofString "__init__"), key := .str (Str.ofString "__init__") (334 : Nat), val := .ref (99 : Nat) }, { hash := PyData.keyHash P (Str.ofString "__static_attributes__"), key := .str (Str.ofString "__static_attributes__") (339 : Nat), val := .ref (100 : Nat) }, { hash := PyData.keyHash P (Str.ofString "__dict__"), key := .str (Str.ofString "__dict__") (341 : Nat), val := .ref (103 : Nat) }, { hash := PyData.keyHash P (Str.ofString "__weakref__"), key := .str (Str.ofString "__weakref__") (343 : Nat), val := .ref (104 : Nat) }, { hash := PyData.keyHash P (Str.ofString "__doc__"), key := .str (Str.ofString "__doc__") (344 : Nat), val := .none }] 4 }) ::
    (nat_lit 102, { cls := .type "type", dict := (none : Option Nat), data := .cls { name := Str.ofString "Component", bases := [.type "object"], mro := [.ref (102 : Nat), .type "object"], ns := (101 : Nat), qualname := Str.ofString "Component" }, slots := #[none, none, some (.str (Str.ofString "Component") (312 : Nat)), some (.str (Str.ofString "Component") (320 : Nat)), some (.builtin "object.__new__"), some (.bool true)] }) ::
    (nat_lit 103, { cls := .type "getset_descriptor", dict := (none : Option Nat), data := .fields #[.str (Str.ofString "__dict__") (340 : Nat), .ref (102 : Nat), .builtin "function.__dict__", .builtin "function.__dict__#set"] }) ::
    (nat_lit 104, { cls := .type "getset_descriptor", dict := (none : Option Nat), data := .fields #[.str (Str.ofString "__weakref__") (342 : Nat), .ref (102 : Nat), .builtin "ExceptionGroup.__weakref__", .none] }) ::
    (nat_lit 114, { cls := .type "tuple", dict := (none : Option Nat), data := .seq #[] }) ::
    (nat_lit 116, { cls := .type "tuple", dict := (none : Option Nat), data := .seq #[.str (Str.ofString "self") (362 : Nat), .str (Str.ofString "kind") (363 : Nat), .str (Str.ofString "precision") (364 : Nat), .str (Str.ofString "height") (365 : Nat), .str (Str.ofString "width") (366 : Nat), .str (Str.ofString "components") (367 : Nat), .str (Str.ofString "n") (368 : Nat)] }) ::
    (nat_lit 117, { cls := .type "tuple", dict := (none : Option Nat), data := .seq #[] }) ::
    (nat_lit 119, { cls := .type "code", dict := (none : Option Nat), data := .fields #[.str (Str.ofString "__init__") (359 : Nat), .str (Str.ofString "Frame.__init__") (360 : Nat), .str (Str.ofString "/claim/cut.py") (361 : Nat), .int 31 (0 : Nat), .int 7 (0 : Nat), .int 0 (0 : Nat), .int 0 (0 : Nat), .int 3 (0 : Nat), .ref (114 : Nat), .bool true, .int 181 (0 : Nat), .ref (115 : Nat), .none, .ref (116 : Nat), .ref (117 : Nat), .ref (118 : Nat), .int 369 (0 : Nat), .int 31 (0 : Nat), .str (Str.ofString "/claim/cut.py") (370 : Nat)] }) ::
    (nat_lit 120, { cls := .type "function", dict := (none : Option Nat), data := .func { name := Str.ofString "__init__", qualname := Str.ofString "Frame.__init__", params := p4, body := .stmts b4, scope := s4, globals := (3 : Nat), closure := ([] : List (Str × Nat)), defaults := .none, kwdefaults := .none, annotations := (none : Option Nat), builtins := (0 : Nat), pyModule := .str (Str.ofString "pixelpress.frames") (257 : Nat), code := .ref (119 : Nat) } }) ::
    (nat_lit 121, { cls := .type "tuple", dict := (none : Option Nat), data := .seq #[] }) ::
    (nat_lit 124, { cls := .type "code", dict := (none : Option Nat), data := .fields #[.str (Str.ofString "most_across") (372 : Nat), .str (Str.ofString "Frame.most_across") (373 : Nat), .str (Str.ofString "/claim/cut.py") (374 : Nat), .int 39 (0 : Nat), .int 1 (0 : Nat), .int 0 (0 : Nat), .int 0 (0 : Nat), .int 3 (0 : Nat), .ref (121 : Nat), .bool true, .int 181 (0 : Nat), .ref (122 : Nat), .none, .none, .none, .ref (123 : Nat), .int 375 (0 : Nat), .int 39 (0 : Nat), .str (Str.ofString "/claim/cut.py") (376 : Nat)] }) ::
    (nat_lit 125, { cls := .type "function", dict := (none : Option Nat), data := .func { name := Str.ofString "most_across", qualname := Str.ofString "Frame.most_across", params := p5, body := .stmts b5, scope := s5, globals := (3 : Nat), closure := ([] : List (Str × Nat)), defaults := .none, kwdefaults := .none, annotations := (none : Option Nat), builtins := (0 : Nat), pyModule := .str (Str.ofString "pixelpress.frames") (257 : Nat), code := .ref (124 : Nat) } }) ::
    (nat_lit 126, { cls := .type "tuple", dict := (none : Option Nat), data := .seq #[] }) ::
    (nat_lit 129, { cls := .type "code", dict := (none : Option Nat), data := .fields #[.str (Str.ofString "most_down") (378 : Nat), .str (Str.ofString "Frame.most_down") (379 : Nat), .str (Str.ofString "/claim/cut.py") (380 : Nat), .int 42 (0 : Nat), .int 1 (0 : Nat), .int 0 (0 : Nat), .int 0 (0 : Nat), .int 3 (0 : Nat), .ref (126 : Nat), .bool true, .int 181 (0 : Nat), .ref (127 : Nat), .none, .none, .none, .ref (128 : Nat), .int 381 (0 : Nat), .int 42 (0 : Nat), .str (Str.ofString "/claim/cut.py") (382 : Nat)] }) ::
    (nat_lit 130, { cls := .type "function", dict := (none : Option Nat), data := .func { name := Str.ofString "most_down", qualname := Str.ofString "Frame.most_down", params := p6, body := .stmts b6, scope := s6, globals := (3 : Nat), closure := ([] : List (Str × Nat)), defaults := .none, kwdefaults := .none, annotations := (none : Option Nat), builtins := (0 : Nat), pyModule := .str (Str.ofString "pixelpress.frames") (257 : Nat), code := .ref (129 : Nat) } }) ::
    (nat_lit 131, { cls := .type "tuple", dict := (none : Option Nat), data := .seq #[] }) ::
    (nat_lit 133, { cls := .type "tuple", dict := (none : Option Nat), data := .seq #[.str (Str.ofString "self") (387 : Nat)] }) ::
    (nat_lit 134, { cls := .type "tuple", dict := (none : Option Nat), data := .seq #[] }) ::
    (nat_lit 136, { cls := .type "code", dict := (none : Option Nat), data := .fields #[.str (Str.ofString "mcus_across") (384 : Nat), .str (Str.ofString "Frame.mcus_across") (385 : Nat), .str (Str.ofString "/claim/cut.py") (386 : Nat), .int 45 (0 : Nat), .int 1 (0 : Nat), .int 0 (0 : Nat), .int 0 (0 : Nat), .int 3 (0 : Nat), .ref (131 : Nat), .bool true, .int 181 (0 : Nat), .ref (132 : Nat), .none, .ref (133 : Nat), .ref (134 : Nat), .ref (135 : Nat), .int 388 (0 : Nat), .int 45 (0 : Nat), .str (Str.ofString "/claim/cut.py") (389 : Nat)] }) ::
    (nat_lit 137, { cls := .type "function", dict := (none : Option Nat), data := .func { name := Str.ofString "mcus_across", qualname := Str.ofString "Frame.mcus_across", params := p7, body := .stmts b7, scope := s7, globals := (3 : Nat), closure := ([] : List (Str × Nat)), defaults := .none, kwdefaults := .none, annotations := (none : Option Nat), builtins := (0 : Nat), pyModule := .str (Str.ofString "pixelpress.frames") (257 : Nat), code := .ref (136 : Nat) } }) ::
    (nat_lit 138, { cls := .type "tuple", dict := (none : Option Nat), data := .seq #[] }) ::
    (nat_lit 140, { cls := .type "tuple", dict := (none : Option Nat), data := .seq #[.str (Str.ofString "self") (394 : Nat)] }) ::
    (nat_lit 141, { cls := .type "tuple", dict := (none : Option Nat), data := .seq #[] }) ::
    (nat_lit 143, { cls := .type "code", dict := (none : Option Nat), data := .fields #[.str (Str.ofString "mcus_down") (391 : Nat), .str (Str.ofString "Frame.mcus_down") (392 : Nat), .str (Str.ofString "/claim/cut.py") (393 : Nat), .int 48 (0 : Nat), .int 1 (0 : Nat), .int 0 (0 : Nat), .int 0 (0 : Nat), .int 3 (0 : Nat), .ref (138 : Nat), .bool true, .int 181 (0 : Nat), .ref (139 : Nat), .none, .ref (140 : Nat), .ref (141 : Nat), .ref (142 : Nat), .int 395 (0 : Nat), .int 48 (0 : Nat), .str (Str.ofString "/claim/cut.py") (396 : Nat)] }) ::
    (nat_lit 144, { cls := .type "function", dict := (none : Option Nat), data := .func { name := Str.ofString "mcus_down", qualname := Str.ofString "Frame.mcus_down", params := p8, body := .stmts b8, scope := s8, globals := (3 : Nat), closure := ([] : List (Str × Nat)), defaults := .none, kwdefaults := .none, annotations := (none : Option Nat), builtins := (0 : Nat), pyModule := .str (Str.ofString "pixelpress.frames") (257 : Nat), code := .ref (143 : Nat) } }) ::
    (nat_lit 145, { cls := .type "tuple", dict := (none : Option Nat), data := .seq #[] }) ::
    (nat_lit 147, { cls := .type "tuple", dict := (none : Option Nat), data := .seq #[.str (Str.ofString "self") (401 : Nat), .str (Str.ofString "place") (402 : Nat), .str (Str.ofString "component") (403 : Nat), .str (Str.ofString "width") (404 : Nat)] }) ::
    (nat_lit 148, { cls := .type "tuple", dict := (none : Option Nat), data := .seq #[] }) ::
    (nat_lit 150, { cls := .type "code", dict := (none : Option Nat), data := .fields #[.str (Str.ofString "plane_size") (398 : Nat), .str (Str.ofString "Frame.plane_size") (399 : Nat), .str (Str.ofString "/claim/cut.py") (400 : Nat), .int 51 (0 : Nat), .int 2 (0 : Nat), .int 0 (0 : Nat), .int 0 (0 : Nat), .int 3 (0 : Nat), .ref (145 : Nat), .bool true, .int 181 (0 : Nat), .ref (146 : Nat), .none, .ref (147 : Nat), .ref (148 : Nat), .ref (149 : Nat), .int 405 (0 : Nat), .int 51 (0 : Nat), .str (Str.ofString "/claim/cut.py") (406 : Nat)] }) ::
    (nat_lit 151, { cls := .type "function", dict := (none : Option Nat), data := .func { name := Str.ofString "plane_size", qualname := Str.ofString "Frame.plane_size", params := p9, body := .stmts b9, scope := s9, globals := (3 : Nat), closure := ([] : List (Str × Nat)), defaults := .none, kwdefaults := .none, annotations := (none : Option Nat), builtins := (0 : Nat), pyModule := .str (Str.ofString "pixelpress.frames") (257 : Nat), code := .ref (150 : Nat) } }) ::
    (nat_lit 152, { cls := .type "tuple", dict := (none : Option Nat), data := .seq #[] }) ::
    (nat_lit 154, { cls := .type "tuple", dict := (none : Option Nat), data := .seq #[.str (Str.ofString "self") (411 : Nat), .str (Str.ofString "place") (412 : Nat), .str (Str.ofString "width") (413 : Nat), .str (Str.ofString "height") (414 : Nat)] }) ::
    (nat_lit 155, { cls := .type "tuple", dict := (none : Option Nat), data := .seq #[] }) ::
    (nat_lit 157, { cls := .type "code", dict := (none : Option Nat), data := .fields #[.str (Str.ofString "blocks") (408 : Nat), .str (Str.ofString "Frame.blocks") (409 : Nat), .str (Str.ofString "/claim/cut.py") (410 : Nat), .int 56 (0 : Nat), .int 2 (0 : Nat), .int 0 (0 : Nat), .int 0 (0 : Nat), .int 3 (0 : Nat), .ref (152 : Nat), .bool true, .int 181 (0 : Nat), .ref (153 : Nat), .none, .ref (154 : Nat), .ref (155 : Nat), .ref (156 : Nat), .int 415 (0 : Nat), .int 56 (0 : Nat), .str (Str.ofString "/claim/cut.py") (416 : Nat)] }) ::
    (nat_lit 158, { cls := .type "function", dict := (none : Option Nat), data := .func { name := Str.ofString "blocks", qualname := Str.ofString "Frame.blocks", params := p10, body := .stmts b10, scope := s10, globals := (3 : Nat), closure := ([] : List (Str × Nat)), defaults := .none, kwdefaults := .none, annotations := (none : Option Nat), builtins := (0 : Nat), pyModule := .str (Str.ofString "pixelpress.frames") (257 : Nat), code := .ref (157 : Nat) } }) ::
    (nat_lit 159, { cls := .type "tuple", dict := (none : Option Nat), data := .seq #[] }) ::
    (nat_lit 161, { cls := .type "tuple", dict := (none : Option Nat), data := .seq #[.str (Str.ofString "self") (421 : Nat), .str (Str.ofString "place") (422 : Nat)] }) ::
    (nat_lit 162, { cls := .type "tuple", dict := (none : Option Nat), data := .seq #[] }) ::
    (nat_lit 164, { cls := .type "code", dict := (none : Option Nat), data := .fields #[.str (Str.ofString "padded") (418 : Nat), .str (Str.ofString "Frame.padded") (419 : Nat), .str (Str.ofString "/claim/cut.py") (420 : Nat), .int 60 (0 : Nat), .int 2 (0 : Nat), .int 0 (0 : Nat), .int 0 (0 : Nat), .int 3 (0 : Nat), .ref (159 : Nat), .bool true, .int 181 (0 : Nat), .ref (160 : Nat), .none, .ref (161 : Nat), .ref (162 : Nat), .ref (163 : Nat), .int 423 (0 : Nat), .int 60 (0 : Nat), .str (Str.ofString "/claim/cut.py") (424 : Nat)] }) ::
    (nat_lit 165, { cls := .type "function", dict := (none : Option Nat), data := .func { name := Str.ofString "padded", qualname := Str.ofString "Frame.padded", params := p11, body := .stmts b11, scope := s11, globals := (3 : Nat), closure := ([] : List (Str × Nat)), defaults := .none, kwdefaults := .none, annotations := (none : Option Nat), builtins := (0 : Nat), pyModule := .str (Str.ofString "pixelpress.frames") (257 : Nat), code := .ref (164 : Nat) } }) ::
    (nat_lit 166, { cls := .type "tuple", dict := (none : Option Nat), data := .seq #[.str (Str.ofString "components") (426 : Nat), .str (Str.ofString "height") (427 : Nat), .str (Str.ofString "kind") (428 : Nat), .str (Str.ofString "n") (429 : Nat), .str (Str.ofString "precision") (430 : Nat), .str (Str.ofString "width") (431 : Nat)] }) ::
    (nat_lit 167, { cls := .type "dict", dict := (none : Option Nat), data := .dict #[{ hash := PyData.keyHash P (Str.ofString "__module__"), key := .str (Str.ofString "__module__") (354 : Nat), val := .str (Str.ofString "pixelpress.frames") (257 : Nat) }, { hash := PyData.keyHash P (Str.ofString "__firstlineno__"), key := .str (Str.ofString "__firstlineno__") (358 : Nat), val := .int 29 (357 : Nat) }, { hash := PyData.keyHash P (Str.ofString "__init__"), key := .str (Str.ofString "__init__") (371 : Nat), val := .ref (120 : Nat) }, { hash := PyData.keyHash P (Str.ofString "most_across"), key := .str (Str.ofString "most_across") (377 : Nat), val := .ref (125 : Nat) }, { hash := PyData.keyHash P (Str.ofString "most_down"), key := .str (Str.ofString "most_down") (383 : Nat), val := .ref (130 : Nat) }, { hash := PyData.keyHash P (Str.ofString "mcus_across"), key := .str (Str.ofString "mcus_across") (390 : Nat), val := .ref (137 : Nat) }, { hash := PyData.keyHash P (Str.ofString "mcus_down"), key := .str (Str.ofString "mcus_down") (397 : Nat), val := .ref (144 : Nat) }, { hash := PyData.keyHash P (Str.ofString "plane_size"), key := .str (Str.ofString "plane_size") (407 : Nat), val := .ref (151 : Nat) }, { hash := PyData.keyHash P (Str.ofString "blocks"), key := .str (Str.ofString "blocks") (417 : Nat), val := .ref (158 : Nat) }, { hash := PyData.keyHash P (Str.ofString "padded"), key := .str (Str.ofString "padded") (425 : Nat), val := .ref (165 : Nat) }, { hash := PyData.keyHash P (Str.ofString "__static_attributes__"), key := .str (Str.ofString "__static_attributes__") (432 : Nat), val := .ref (166 : Nat) }, { hash := PyData.keyHash P (Str.ofString "__dict__"), key := .str (Str.ofString "__dict__") (434 : Nat), val := .ref (169 : Nat) }, { hash := PyData.keyHash P (Str.ofString "__weakref__"), key := .str (Str.ofString "__weakref__") (436 : Nat), val := .ref (170 : Nat) }, { hash := PyData.keyHash P (Str.ofString "__doc__"), key := .str (Str.ofString "__doc__") (437 : Nat), val := .none }] 4 }) ::
    (nat_lit 168, { cls := .type "type", dict := (none : Option Nat), data := .cls { name := Str.ofString "Frame", bases := [.type "object"], mro := [.ref (168 : Nat), .type "object"], ns := (167 : Nat), qualname := Str.ofString "Frame" }, slots := #[none, none, some (.str (Str.ofString "Frame") (347 : Nat)), some (.str (Str.ofString "Frame") (355 : Nat)), some (.builtin "object.__new__"), some (.bool true)] }) ::
    (nat_lit 169, { cls := .type "getset_descriptor", dict := (none : Option Nat), data := .fields #[.str (Str.ofString "__dict__") (433 : Nat), .ref (168 : Nat), .builtin "function.__dict__", .builtin "function.__dict__#set"] }) ::
    (nat_lit 170, { cls := .type "getset_descriptor", dict := (none : Option Nat), data := .fields #[.str (Str.ofString "__weakref__") (435 : Nat), .ref (168 : Nat), .builtin "ExceptionGroup.__weakref__", .none] }) ::
    (nat_lit 173, { cls := .type "tuple", dict := (none : Option Nat), data := .seq #[] }) ::
    (nat_lit 175, { cls := .type "tuple", dict := (none : Option Nat), data := .seq #[.str (Str.ofString "kind") (443 : Nat), .str (Str.ofString "row") (444 : Nat)] }) ::
    (nat_lit 176, { cls := .type "tuple", dict := (none : Option Nat), data := .seq #[] }) ::
    (nat_lit 178, { cls := .type "code", dict := (none : Option Nat), data := .fields #[.str (Str.ofString "kind_row") (440 : Nat), .str (Str.ofString "kind_row") (441 : Nat), .str (Str.ofString "/claim/cut.py") (442 : Nat), .int 62 (0 : Nat), .int 1 (0 : Nat), .int 0 (0 : Nat), .int 0 (0 : Nat), .int 3 (0 : Nat), .ref (173 : Nat), .bool true, .int 181 (0 : Nat), .ref (174 : Nat), .none, .ref (175 : Nat), .ref (176 : Nat), .ref (177 : Nat), .int 445 (0 : Nat), .int 62 (0 : Nat), .str (Str.ofString "/claim/cut.py") (446 : Nat)] }) ::
    (nat_lit 179, { cls := .type "function", dict := (none : Option Nat), data := .func { name := Str.ofString "kind_row", qualname := Str.ofString "kind_row", params := p12, body := .stmts b12, scope := s12, globals := (3 : Nat), closure := ([] : List (Str × Nat)), defaults := .none, kwdefaults := .none, annotations := (none : Option Nat), builtins := (0 : Nat), pyModule := .str (Str.ofString "pixelpress.frames") (257 : Nat), code := .ref (178 : Nat) } }) ::
    (nat_lit 180, { cls := .type "tuple", dict := (none : Option Nat), data := .seq #[] }) ::
    (nat_lit 182, { cls := .type "tuple", dict := (none : Option Nat), data := .seq #[.str (Str.ofString "code") (451 : Nat), .str (Str.ofString "row") (452 : Nat)] }) ::
    (nat_lit 183, { cls := .type "tuple", dict := (none : Option Nat), data := .seq #[] }) ::
    (nat_lit 185, { cls := .type "code", dict := (none : Option Nat), data := .fields #[.str (Str.ofString "kind_of_code") (448 : Nat), .str (Str.ofString "kind_of_code") (449 : Nat), .str (Str.ofString "/claim/cut.py") (450 : Nat), .int 67 (0 : Nat), .int 1 (0 : Nat), .int 0 (0 : Nat), .int 0 (0 : Nat), .int 3 (0 : Nat), .ref (180 : Nat), .bool true, .int 181 (0 : Nat), .ref (181 : Nat), .none, .ref (182 : Nat), .ref (183 : Nat), .ref (184 : Nat), .int 453 (0 : Nat), .int 67 (0 : Nat), .str (Str.ofString "/claim/cut.py") (454 : Nat)] }) ::
    (nat_lit 186, { cls := .type "function", dict := (none : Option Nat), data := .func { name := Str.ofString "kind_of_code", qualname := Str.ofString "kind_of_code", params := p13, body := .stmts b13, scope := s13, globals := (3 : Nat), closure := ([] : List (Str × Nat)), defaults := .none, kwdefaults := .none, annotations := (none : Option Nat), builtins := (0 : Nat), pyModule := .str (Str.ofString "pixelpress.frames") (257 : Nat), code := .ref (185 : Nat) } }) ::
    (nat_lit 187, { cls := .type "tuple", dict := (none : Option Nat), data := .seq #[] }) ::
    (nat_lit 189, { cls := .type "tuple", dict := (none : Option Nat), data := .seq #[.str (Str.ofString "component") (459 : Nat)] }) ::
    (nat_lit 190, { cls := .type "tuple", dict := (none : Option Nat), data := .seq #[] }) ::
    (nat_lit 192, { cls := .type "code", dict := (none : Option Nat), data := .fields #[.str (Str.ofString "check_component") (456 : Nat), .str (Str.ofString "check_component") (457 : Nat), .str (Str.ofString "/claim/cut.py") (458 : Nat), .int 72 (0 : Nat), .int 1 (0 : Nat), .int 0 (0 : Nat), .int 0 (0 : Nat), .int 3 (0 : Nat), .ref (187 : Nat), .bool true, .int 181 (0 : Nat), .ref (188 : Nat), .none, .ref (189 : Nat), .ref (190 : Nat), .ref (191 : Nat), .int 460 (0 : Nat), .int 72 (0 : Nat), .str (Str.ofString "/claim/cut.py") (461 : Nat)] }) ::
    (nat_lit 193, { cls := .type "function", dict := (none : Option Nat), data := .func { name := Str.ofString "check_component", qualname := Str.ofString "check_component", params := p14, body := .stmts b14, scope := s14, globals := (3 : Nat), closure := ([] : List (Str × Nat)), defaults := .none, kwdefaults := .none, annotations := (none : Option Nat), builtins := (0 : Nat), pyModule := .str (Str.ofString "pixelpress.frames") (257 : Nat), code := .ref (192 : Nat) } }) ::
    (nat_lit 194, { cls := .type "tuple", dict := (none : Option Nat), data := .seq #[] }) ::
    (nat_lit 196, { cls := .type "tuple", dict := (none : Option Nat), data := .seq #[.str (Str.ofString "frame") (466 : Nat), .str (Str.ofString "known") (467 : Nat), .str (Str.ofString "component") (468 : Nat)] }) ::
    (nat_lit 197, { cls := .type "tuple", dict := (none : Option Nat), data := .seq #[] }) ::
    (nat_lit 199, { cls := .type "code", dict := (none : Option Nat), data := .fields #[.str (Str.ofString "check_frame") (463 : Nat), .str (Str.ofString "check_frame") (464 : Nat), .str (Str.ofString "/claim/cut.py") (465 : Nat), .int 79 (0 : Nat), .int 1 (0 : Nat), .int 0 (0 : Nat), .int 0 (0 : Nat), .int 3 (0 : Nat), .ref (194 : Nat), .bool true, .int 181 (0 : Nat), .ref (195 : Nat), .none, .ref (196 : Nat), .ref (197 : Nat), .ref (198 : Nat), .int 469 (0 : Nat), .int 79 (0 : Nat), .str (Str.ofString "/claim/cut.py") (470 : Nat)] }) ::
    (nat_lit 200, { cls := .type "function", dict := (none : Option Nat), data := .func { name := Str.ofString "check_frame", qualname := Str.ofString "check_frame", params := p15, body := .stmts b15, scope := s15, globals := (3 : Nat), closure := ([] : List (Str × Nat)), defaults := .none, kwdefaults := .none, annotations := (none : Option Nat), builtins := (0 : Nat), pyModule := .str (Str.ofString "pixelpress.frames") (257 : Nat), code := .ref (199 : Nat) } }) ::
    (nat_lit 201, { cls := .type "tuple", dict := (none : Option Nat), data := .seq #[] }) ::
    (nat_lit 203, { cls := .type "tuple", dict := (none : Option Nat), data := .seq #[.str (Str.ofString "frame") (475 : Nat), .str (Str.ofString "ident") (476 : Nat), .str (Str.ofString "place") (477 : Nat)] }) ::
    (nat_lit 204, { cls := .type "tuple", dict := (none : Option Nat), data := .seq #[] }) ::
    (nat_lit 206, { cls := .type "code", dict := (none : Option Nat), data := .fields #[.str (Str.ofString "place_of") (472 : Nat), .str (Str.ofString "place_of") (473 : Nat), .str (Str.ofString "/claim/cut.py") (474 : Nat), .int 92 (0 : Nat), .int 2 (0 : Nat), .int 0 (0 : Nat), .int 0 (0 : Nat), .int 3 (0 : Nat), .ref (201 : Nat), .bool true, .int 181 (0 : Nat), .ref (202 : Nat), .none, .ref (203 : Nat), .ref (204 : Nat), .ref (205 : Nat), .int 478 (0 : Nat), .int 92 (0 : Nat), .str (Str.ofString "/claim/cut.py") (479 : Nat)] }) ::
    (nat_lit 207, { cls := .type "function", dict := (none : Option Nat), data := .func { name := Str.ofString "place_of", qualname := Str.ofString "place_of", params := p16, body := .stmts b16, scope := s16, globals := (3 : Nat), closure := ([] : List (Str × Nat)), defaults := .none, kwdefaults := .none, annotations := (none : Option Nat), builtins := (0 : Nat), pyModule := .str (Str.ofString "pixelpress.frames") (257 : Nat), code := .ref (206 : Nat) } }) ::
    (nat_lit 215, { cls := .type "tuple", dict := (none : Option Nat), data := .seq #[] }) ::
    (nat_lit 217, { cls := .type "tuple", dict := (none : Option Nat), data := .seq #[.str (Str.ofString "self") (498 : Nat), .str (Str.ofString "ident") (499 : Nat), .str (Str.ofString "across") (500 : Nat), .str (Str.ofString "down") (501 : Nat), .str (Str.ofString "quant") (502 : Nat)] }) ::
    (nat_lit 218, { cls := .type "tuple", dict := (none : Option Nat), data := .seq #[] }) ::
    (nat_lit 220, { cls := .type "code", dict := (none : Option Nat), data := .fields #[.str (Str.ofString "__init__") (495 : Nat), .str (Str.ofString "ComponentHead.__init__") (496 : Nat), .str (Str.ofString "/claim/cut.py") (497 : Nat), .int 100 (0 : Nat), .int 5 (0 : Nat), .int 0 (0 : Nat), .int 0 (0 : Nat), .int 3 (0 : Nat), .ref (215 : Nat), .bool true, .int 181 (0 : Nat), .ref (216 : Nat), .none, .ref (217 : Nat), .ref (218 : Nat), .ref (219 : Nat), .int 503 (0 : Nat), .int 100 (0 : Nat), .str (Str.ofString "/claim/cut.py") (504 : Nat)] }) ::
    (nat_lit 221, { cls := .type "function", dict := (none : Option Nat), data := .func { name := Str.ofString "__init__", qualname := Str.ofString "ComponentHead.__init__", params := p17, body := .stmts b17, scope := s17, globals := (3 : Nat), closure := ([] : List (Str × Nat)), defaults := .none, kwdefaults := .none, annotations := (none : Option Nat), builtins := (0 : Nat), pyModule := .str (Str.ofString "pixelpress.head_segments") (481 : Nat), code := .ref (220 : Nat) } }) ::
    (nat_lit 222, { cls := .type "tuple", dict := (none : Option Nat), data := .seq #[.str (Str.ofString "across") (506 : Nat), .str (Str.ofString "down") (507 : Nat), .str (Str.ofString "ident") (508 : Nat), .str (Str.ofString "quant") (509 : Nat)] }) ::
    (nat_lit 223, { cls := .type "dict", dict := (none : Option Nat), data := .dict #[{ hash := PyData.keyHash P (Str.ofString "__module__"), key := .str (Str.ofString "__module__") (490 : Nat), val := .str (Str.ofString "pixelpress.head_segments") (481 : Nat) }, { hash := PyData.keyHash P (Str.ofString "__firstlineno__"), key := .str (Str.ofString "__firstlineno__") (494 : Nat), val := .int 98 (493 : Nat) }, { hash := PyData.keyHash P (Str.ofString "__init__"), key := .str (Str.ofString "__init__") (505 : Nat), val := .ref (221 : Nat) }, { hash := PyData.keyHash P (Str.ofString "__static_attributes__"), key := .str (Str.ofString "__static_attributes__") (510 : Nat), val := .ref (222 : Nat) }, { hash := PyData.keyHash P (Str.ofString "__dict__"), key := .str (Str.ofString "__dict__") (512 : Nat), val := .ref (225 : Nat) }, { hash := PyData.keyHash P (Str.ofString "__weakref__"), key := .str (Str.ofString "__weakref__") (514 : Nat), val := .ref (226 : Nat) }, { hash := PyData.keyHash P (Str.ofString "__doc__"), key := .str (Str.ofString "__doc__") (515 : Nat), val := .none }] 4 }) ::
    (nat_lit 224, { cls := .type "type", dict := (none : Option Nat), data := .cls { name := Str.ofString "ComponentHead", bases := [.type "object"], mro := [.ref (224 : Nat), .type "object"], ns := (223 : Nat), qualname := Str.ofString "ComponentHead" }, slots := #[none, none, some (.str (Str.ofString "ComponentHead") (483 : Nat)), some (.str (Str.ofString "ComponentHead") (491 : Nat)), some (.builtin "object.__new__"), some (.bool true)] }) ::
    (nat_lit 225, { cls := .type "getset_descriptor", dict := (none : Option Nat), data := .fields #[.str (Str.ofString "__dict__") (511 : Nat), .ref (224 : Nat), .builtin "function.__dict__", .builtin "function.__dict__#set"] }) ::
    (nat_lit 226, { cls := .type "getset_descriptor", dict := (none : Option Nat), data := .fields #[.str (Str.ofString "__weakref__") (513 : Nat), .ref (224 : Nat), .builtin "ExceptionGroup.__weakref__", .none] }) ::
    (nat_lit 236, { cls := .type "tuple", dict := (none : Option Nat), data := .seq #[] }) ::
    (nat_lit 238, { cls := .type "tuple", dict := (none : Option Nat), data := .seq #[.str (Str.ofString "self") (533 : Nat), .str (Str.ofString "code") (534 : Nat), .str (Str.ofString "precision") (535 : Nat), .str (Str.ofString "height") (536 : Nat), .str (Str.ofString "width") (537 : Nat), .str (Str.ofString "components") (538 : Nat)] }) ::
    (nat_lit 239, { cls := .type "tuple", dict := (none : Option Nat), data := .seq #[] }) ::
    (nat_lit 241, { cls := .type "code", dict := (none : Option Nat), data := .fields #[.str (Str.ofString "__init__") (530 : Nat), .str (Str.ofString "FrameHead.__init__") (531 : Nat), .str (Str.ofString "/claim/cut.py") (532 : Nat), .int 107 (0 : Nat), .int 6 (0 : Nat), .int 0 (0 : Nat), .int 0 (0 : Nat), .int 3 (0 : Nat), .ref (236 : Nat), .bool true, .int 181 (0 : Nat), .ref (237 : Nat), .none, .ref (238 : Nat), .ref (239 : Nat), .ref (240 : Nat), .int 539 (0 : Nat), .int 107 (0 : Nat), .str (Str.ofString "/claim/cut.py") (540 : Nat)] }) ::
    (nat_lit 242, { cls := .type "function", dict := (none : Option Nat), data := .func { name := Str.ofString "__init__", qualname := Str.ofString "FrameHead.__init__", params := p18, body := .stmts b18, scope := s18, globals := (3 : Nat), closure := ([] : List (Str × Nat)), defaults := .none, kwdefaults := .none, annotations := (none : Option Nat), builtins := (0 : Nat), pyModule := .str (Str.ofString "pixelpress.head_segments") (481 : Nat), code := .ref (241 : Nat) } }) ::
    (nat_lit 243, { cls := .type "tuple", dict := (none : Option Nat), data := .seq #[.str (Str.ofString "code") (542 : Nat), .str (Str.ofString "components") (543 : Nat), .str (Str.ofString "height") (544 : Nat), .str (Str.ofString "precision") (545 : Nat), .str (Str.ofString "width") (546 : Nat)] }) ::
    (nat_lit 244, { cls := .type "dict", dict := (none : Option Nat), data := .dict #[{ hash := PyData.keyHash P (Str.ofString "__module__"), key := .str (Str.ofString "__module__") (525 : Nat), val := .str (Str.ofString "pixelpress.head_segments") (481 : Nat) }, { hash := PyData.keyHash P (Str.ofString "__firstlineno__"), key := .str (Str.ofString "__firstlineno__") (529 : Nat), val := .int 105 (528 : Nat) }, { hash := PyData.keyHash P (Str.ofString "__init__"), key := .str (Str.ofString "__init__") (541 : Nat), val := .ref (242 : Nat) }, { hash := PyData.keyHash P (Str.ofString "__static_attributes__"), key := .str (Str.ofString "__static_attributes__") (547 : Nat), val := .ref (243 : Nat) }, { hash := PyData.keyHash P (Str.ofString "__dict__"), key := .str (Str.ofString "__dict__") (549 : Nat), val := .ref (246 : Nat) }, { hash := PyData.keyHash P (Str.ofString "__weakref__"), key := .str (Str.ofString "__weakref__") (551 : Nat), val := .ref (247 : Nat) }, { hash := PyData.keyHash P (Str.ofString "__doc__"), key := .str (Str.ofString "__doc__") (552 : Nat), val := .none }] 4 }) ::
    (nat_lit 245, { cls := .type "type", dict := (none : Option Nat), data := .cls { name := Str.ofString "FrameHead", bases := [.type "object"], mro := [.ref (245 : Nat), .type "object"], ns := (244 : Nat), qualname := Str.ofString "FrameHead" }, slots := #[none, none, some (.str (Str.ofString "FrameHead") (518 : Nat)), some (.str (Str.ofString "FrameHead") (526 : Nat)), some (.builtin "object.__new__"), some (.bool true)] }) ::
    (nat_lit 246, { cls := .type "getset_descriptor", dict := (none : Option Nat), data := .fields #[.str (Str.ofString "__dict__") (548 : Nat), .ref (245 : Nat), .builtin "function.__dict__", .builtin "function.__dict__#set"] }) ::
    (nat_lit 247, { cls := .type "getset_descriptor", dict := (none : Option Nat), data := .fields #[.str (Str.ofString "__weakref__") (550 : Nat), .ref (245 : Nat), .builtin "ExceptionGroup.__weakref__", .none] }) ::
    (nat_lit 257, { cls := .type "tuple", dict := (none : Option Nat), data := .seq #[] }) ::
    (nat_lit 259, { cls := .type "tuple", dict := (none : Option Nat), data := .seq #[.str (Str.ofString "self") (570 : Nat), .str (Str.ofString "idents") (571 : Nat), .str (Str.ofString "dc_slots") (572 : Nat), .str (Str.ofString "ac_slots") (573 : Nat), .str (Str.ofString "start") (574 : Nat), .str (Str.ofString "end") (575 : Nat), .str (Str.ofString "high") (576 : Nat), .str (Str.ofString "low") (577 : Nat)] }) ::
    (nat_lit 260, { cls := .type "tuple", dict := (none : Option Nat), data := .seq #[] }) ::
    (nat_lit 262, { cls := .type "code", dict := (none : Option Nat), data := .fields #[.str (Str.ofString "__init__") (567 : Nat), .str (Str.ofString "ScanHead.__init__") (568 : Nat), .str (Str.ofString "/claim/cut.py") (569 : Nat), .int 115 (0 : Nat), .int 8 (0 : Nat), .int 0 (0 : Nat), .int 0 (0 : Nat), .int 3 (0 : Nat), .ref (257 : Nat), .bool true, .int 181 (0 : Nat), .ref (258 : Nat), .none, .ref (259 : Nat), .ref (260 : Nat), .ref (261 : Nat), .int 578 (0 : Nat), .int 115 (0 : Nat), .str (Str.ofString "/claim/cut.py") (579 : Nat)] }) ::
    (nat_lit 263, { cls := .type "function", dict := (none : Option Nat), data := .func { name := Str.ofString "__init__", qualname := Str.ofString "ScanHead.__init__", params := p19, body := .stmts b19, scope := s19, globals := (3 : Nat), closure := ([] : List (Str × Nat)), defaults := .none, kwdefaults := .none, annotations := (none : Option Nat), builtins := (0 : Nat), pyModule := .str (Str.ofString "pixelpress.head_segments") (481 : Nat), code := .ref (262 : Nat) } }) ::
    (nat_lit 264, { cls := .type "tuple", dict := (none : Option Nat), data := .seq #[.str (Str.ofString "ac_slots") (581 : Nat), .str (Str.ofString "dc_slots") (582 : Nat), .str (Str.ofString "end") (583 : Nat), .str (Str.ofString "high") (584 : Nat), .str (Str.ofString "idents") (585 : Nat), .str (Str.ofString "low") (586 : Nat), .str (Str.ofString "start") (587 : Nat)] }) ::
    (nat_lit 265, { cls := .type "dict", dict := (none : Option Nat), data := .dict #[{ hash := PyData.keyHash P (Str.ofString "__module__"), key := .str (Str.ofString "__module__") (562 : Nat), val := .str (Str.ofString "pixelpress.head_segments") (481 : Nat) }, { hash := PyData.keyHash P (Str.ofString "__firstlineno__"), key := .str (Str.ofString "__firstlineno__") (566 : Nat), val := .int 113 (565 : Nat) }, { hash := PyData.keyHash P (Str.ofString "__init__"), key := .str (Str.ofString "__init__") (580 : Nat), val := .ref (263 : Nat) }, { hash := PyData.keyHash P (Str.ofString "__static_attributes__"), key := .str (Str.ofString "__static_attributes__") (588 : Nat), val := .ref (264 : Nat) }, { hash := PyData.keyHash P (Str.ofString "__dict__"), key := .str (Str.ofString "__dict__") (590 : Nat), val := .ref (267 : Nat) }, { hash := PyData.keyHash P (Str.ofString "__weakref__"), key := .str (Str.ofString "__weakref__") (592 : Nat), val := .ref (268 : Nat) }, { hash := PyData.keyHash P (Str.ofString "__doc__"), key := .str (Str.ofString "__doc__") (593 : Nat), val := .none }] 4 }) ::
    (nat_lit 266, { cls := .type "type", dict := (none : Option Nat), data := .cls { name := Str.ofString "ScanHead", bases := [.type "object"], mro := [.ref (266 : Nat), .type "object"], ns := (265 : Nat), qualname := Str.ofString "ScanHead" }, slots := #[none, none, some (.str (Str.ofString "ScanHead") (555 : Nat)), some (.str (Str.ofString "ScanHead") (563 : Nat)), some (.builtin "object.__new__"), some (.bool true)] }) ::
    (nat_lit 267, { cls := .type "getset_descriptor", dict := (none : Option Nat), data := .fields #[.str (Str.ofString "__dict__") (589 : Nat), .ref (266 : Nat), .builtin "function.__dict__", .builtin "function.__dict__#set"] }) ::
    (nat_lit 268, { cls := .type "getset_descriptor", dict := (none : Option Nat), data := .fields #[.str (Str.ofString "__weakref__") (591 : Nat), .ref (266 : Nat), .builtin "ExceptionGroup.__weakref__", .none] }) ::
    (nat_lit 278, { cls := .type "tuple", dict := (none : Option Nat), data := .seq #[] }) ::
    (nat_lit 280, { cls := .type "tuple", dict := (none : Option Nat), data := .seq #[.str (Str.ofString "self") (613 : Nat), .str (Str.ofString "places") (614 : Nat), .str (Str.ofString "dc_slots") (615 : Nat), .str (Str.ofString "ac_slots") (616 : Nat), .str (Str.ofString "start") (617 : Nat), .str (Str.ofString "end") (618 : Nat), .str (Str.ofString "high") (619 : Nat), .str (Str.ofString "low") (620 : Nat)] }) ::
    (nat_lit 281, { cls := .type "tuple", dict := (none : Option Nat), data := .seq #[] }) ::
    (nat_lit 283, { cls := .type "code", dict := (none : Option Nat), data := .fields #[.str (Str.ofString "__init__") (610 : Nat), .str (Str.ofString "Scan.__init__") (611 : Nat), .str (Str.ofString "/claim/cut.py") (612 : Nat), .int 126 (0 : Nat), .int 8 (0 : Nat), .int 0 (0 : Nat), .int 0 (0 : Nat), .int 3 (0 : Nat), .ref (278 : Nat), .bool true, .int 181 (0 : Nat), .ref (279 : Nat), .none, .ref (280 : Nat), .ref (281 : Nat), .ref (282 : Nat), .int 621 (0 : Nat), .int 126 (0 : Nat), .str (Str.ofString "/claim/cut.py") (622 : Nat)] }) ::
    (nat_lit 284, { cls := .type "function", dict := (none : Option Nat), data := .func { name := Str.ofString "__init__", qualname := Str.ofString "Scan.__init__", params := p20, body := .stmts b20, scope := s20, globals := (3 : Nat), closure := ([] : List (Str × Nat)), defaults := .none, kwdefaults := .none, annotations := (none : Option Nat), builtins := (0 : Nat), pyModule := .str (Str.ofString "pixelpress.scans") (596 : Nat), code := .ref (283 : Nat) } }) ::
    (nat_lit 285, { cls := .type "tuple", dict := (none : Option Nat), data := .seq #[] }) ::
    (nat_lit 287, { cls := .type "tuple", dict := (none : Option Nat), data := .seq #[.str (Str.ofString "self") (627 : Nat)] }) ::
    (nat_lit 288, { cls := .type "tuple", dict := (none : Option Nat), data := .seq #[] }) ::
    (nat_lit 290, { cls := .type "code", dict := (none : Option Nat), data := .fields #[.str (Str.ofString "is_alone") (624 : Nat), .str (Str.ofString "Scan.is_alone") (625 : Nat), .str (Str.ofString "/claim/cut.py") (626 : Nat), .int 135 (0 : Nat), .int 1 (0 : Nat), .int 0 (0 : Nat), .int 0 (0 : Nat), .int 3 (0 : Nat), .ref (285 : Nat), .bool true, .int 181 (0 : Nat), .ref (286 : Nat), .none, .ref (287 : Nat), .ref (288 : Nat), .ref (289 : Nat), .int 628 (0 : Nat), .int 135 (0 : Nat), .str (Str.ofString "/claim/cut.py") (629 : Nat)] }) ::
    (nat_lit 291, { cls := .type "function", dict := (none : Option Nat), data := .func { name := Str.ofString "is_alone", qualname := Str.ofString "Scan.is_alone", params := p21, body := .stmts b21, scope := s21, globals := (3 : Nat), closure := ([] : List (Str × Nat)), defaults := .none, kwdefaults := .none, annotations := (none : Option Nat), builtins := (0 : Nat), pyModule := .str (Str.ofString "pixelpress.scans") (596 : Nat), code := .ref (290 : Nat) } }) ::
    (nat_lit 292, { cls := .type "tuple", dict := (none : Option Nat), data := .seq #[] }) ::
    (nat_lit 294, { cls := .type "tuple", dict := (none : Option Nat), data := .seq #[.str (Str.ofString "self") (634 : Nat)] }) ::
    (nat_lit 295, { cls := .type "tuple", dict := (none : Option Nat), data := .seq #[] }) ::
    (nat_lit 297, { cls := .type "code", dict := (none : Option Nat), data := .fields #[.str (Str.ofString "is_finer") (631 : Nat), .str (Str.ofString "Scan.is_finer") (632 : Nat), .str (Str.ofString "/claim/cut.py") (633 : Nat), .int 138 (0 : Nat), .int 1 (0 : Nat), .int 0 (0 : Nat), .int 0 (0 : Nat), .int 3 (0 : Nat), .ref (292 : Nat), .bool true, .int 181 (0 : Nat), .ref (293 : Nat), .none, .ref (294 : Nat), .ref (295 : Nat), .ref (296 : Nat), .int 635 (0 : Nat), .int 138 (0 : Nat), .str (Str.ofString "/claim/cut.py") (636 : Nat)] }) ::
    (nat_lit 298, { cls := .type "function", dict := (none : Option Nat), data := .func { name := Str.ofString "is_finer", qualname := Str.ofString "Scan.is_finer", params := p22, body := .stmts b22, scope := s22, globals := (3 : Nat), closure := ([] : List (Str × Nat)), defaults := .none, kwdefaults := .none, annotations := (none : Option Nat), builtins := (0 : Nat), pyModule := .str (Str.ofString "pixelpress.scans") (596 : Nat), code := .ref (297 : Nat) } }) ::
    (nat_lit 299, { cls := .type "tuple", dict := (none : Option Nat), data := .seq #[.str (Str.ofString "ac_slots") (638 : Nat), .str (Str.ofString "dc_slots") (639 : Nat), .str (Str.ofString "end") (640 : Nat), .str (Str.ofString "high") (641 : Nat), .str (Str.ofString "low") (642 : Nat), .str (Str.ofString "places") (643 : Nat), .str (Str.ofString "start") (644 : Nat)] }) ::
    (nat_lit 300, { cls := .type "dict", dict := (none : Option Nat), data := .dict #[{ hash := PyData.keyHash P (Str.ofString "__module__"), key := .str (Str.ofString "__module__") (605 : Nat), val := .str (Str.ofString "pixelpress.scans") (596 : Nat) }, { hash := PyData.keyHash P (Str.ofString "__firstlineno__"), key := .str (Str.ofString "__firstlineno__") (609 : Nat), val := .int 124 (608 : Nat) }, { hash := PyData.keyHash P (Str.ofString "__init__"), key := .str (Str.ofString "__init__") (623 : Nat), val := .ref (284 : Nat) }, { hash := PyData.keyHash P (Str.ofString "is_alone"), key := .str (Str.ofString "is_alone") (630 : Nat), val := .ref (291 : Nat) }, { hash := PyData.keyHash P (Str.ofString "is_finer"), key := .str (Str.ofString "is_finer") (637 : Nat), val := .ref (298 : Nat) }, { hash := PyData.keyHash P (Str.ofString "__static_attributes__"), key := .str (Str.ofString "__static_attributes__") (645 : Nat), val := .ref (299 : Nat) }, { hash := PyData.keyHash P (Str.ofString "__dict__"), key := .str (Str.ofString "__dict__") (647 : Nat), val := .ref (302 : Nat) }, { hash := PyData.keyHash P (Str.ofString "__weakref__"), key := .str (Str.ofString "__weakref__") (649 : Nat), val := .ref (303 : Nat) }, { hash := PyData.keyHash P (Str.ofString "__doc__"), key := .str (Str.ofString "__doc__") (650 : Nat), val := .none }] 4 }) ::
    (nat_lit 301, { cls := .type "type", dict := (none : Option Nat), data := .cls { name := Str.ofString "Scan", bases := [.type "object"], mro := [.ref (301 : Nat), .type "object"], ns := (300 : Nat), qualname := Str.ofString "Scan" }, slots := #[none, none, some (.str (Str.ofString "Scan") (598 : Nat)), some (.str (Str.ofString "Scan") (606 : Nat)), some (.builtin "object.__new__"), some (.bool true)] }) ::
    (nat_lit 302, { cls := .type "getset_descriptor", dict := (none : Option Nat), data := .fields #[.str (Str.ofString "__dict__") (646 : Nat), .ref (301 : Nat), .builtin "function.__dict__", .builtin "function.__dict__#set"] }) ::
    (nat_lit 303, { cls := .type "getset_descriptor", dict := (none : Option Nat), data := .fields #[.str (Str.ofString "__weakref__") (648 : Nat), .ref (301 : Nat), .builtin "ExceptionGroup.__weakref__", .none] }) ::
    (nat_lit 306, { cls := .type "tuple", dict := (none : Option Nat), data := .seq #[] }) ::
    (nat_lit 309, { cls := .type "code", dict := (none : Option Nat), data := .fields #[.str (Str.ofString "frame_from_head") (655 : Nat), .str (Str.ofString "frame_from_head") (656 : Nat), .str (Str.ofString "/claim/cut.py") (657 : Nat), .int 141 (0 : Nat), .int 2 (0 : Nat), .int 0 (0 : Nat), .int 0 (0 : Nat), .int 3 (0 : Nat), .ref (306 : Nat), .bool true, .int 181 (0 : Nat), .ref (307 : Nat), .none, .none, .none, .ref (308 : Nat), .int 658 (0 : Nat), .int 141 (0 : Nat), .str (Str.ofString "/claim/cut.py") (659 : Nat)] }) ::
    (nat_lit 310, { cls := .type "function", dict := (none : Option Nat), data := .func { name := Str.ofString "frame_from_head", qualname := Str.ofString "frame_from_head", params := p23, body := .stmts b23, scope := s23, globals := (3 : Nat), closure := ([] : List (Str × Nat)), defaults := .none, kwdefaults := .none, annotations := (none : Option Nat), builtins := (0 : Nat), pyModule := .str (Str.ofString "pixelpress.frame_heads") (653 : Nat), code := .ref (309 : Nat) } }) ::
    (nat_lit 311, { cls := .type "tuple", dict := (none : Option Nat), data := .seq #[] }) ::
    (nat_lit 314, { cls := .type "code", dict := (none : Option Nat), data := .fields #[.str (Str.ofString "frame_to_head") (661 : Nat), .str (Str.ofString "frame_to_head") (662 : Nat), .str (Str.ofString "/claim/cut.py") (663 : Nat), .int 148 (0 : Nat), .int 1 (0 : Nat), .int 0 (0 : Nat), .int 0 (0 : Nat), .int 3 (0 : Nat), .ref (311 : Nat), .bool true, .int 181 (0 : Nat), .ref (312 : Nat), .none, .none, .none, .ref (313 : Nat), .int 664 (0 : Nat), .int 148 (0 : Nat), .str (Str.ofString "/claim/cut.py") (665 : Nat)] }) ::
    (nat_lit 315, { cls := .type "function", dict := (none : Option Nat), data := .func { name := Str.ofString "frame_to_head", qualname := Str.ofString "frame_to_head", params := p24, body := .stmts b24, scope := s24, globals := (3 : Nat), closure := ([] : List (Str × Nat)), defaults := .none, kwdefaults := .none, annotations := (none : Option Nat), builtins := (0 : Nat), pyModule := .str (Str.ofString "pixelpress.frame_heads") (653 : Nat), code := .ref (314 : Nat) } }) ::
    (nat_lit 316, { cls := .type "tuple", dict := (none : Option Nat), data := .seq #[] }) ::
    (nat_lit 318, { cls := .type "tuple", dict := (none : Option Nat), data := .seq #[.str (Str.ofString "head") (670 : Nat), .str (Str.ofString "frame") (671 : Nat), .str (Str.ofString "places") (672 : Nat), .str (Str.ofString "ident") (673 : Nat), .str (Str.ofString "place") (674 : Nat)] }) ::
    (nat_lit 319, { cls := .type "tuple", dict := (none : Option Nat), data := .seq #[] }) ::
    (nat_lit 321, { cls := .type "code", dict := (none : Option Nat), data := .fields #[.str (Str.ofString "scan_from_head") (667 : Nat), .str (Str.ofString "scan_from_head") (668 : Nat), .str (Str.ofString "/claim/cut.py") (669 : Nat), .int 151 (0 : Nat), .int 2 (0 : Nat), .int 0 (0 : Nat), .int 0 (0 : Nat), .int 3 (0 : Nat), .ref (316 : Nat), .bool true, .int 181 (0 : Nat), .ref (317 : Nat), .none, .ref (318 : Nat), .ref (319 : Nat), .ref (320 : Nat), .int 675 (0 : Nat), .int 151 (0 : Nat), .str (Str.ofString "/claim/cut.py") (676 : Nat)] }) ::
    (nat_lit 322, { cls := .type "function", dict := (none : Option Nat), data := .func { name := Str.ofString "scan_from_head", qualname := Str.ofString "scan_from_head", params := p25, body := .stmts b25, scope := s25, globals := (3 : Nat), closure := ([] : List (Str × Nat)), defaults := .none, kwdefaults := .none, annotations := (none : Option Nat), builtins := (0 : Nat), pyModule := .str (Str.ofString "pixelpress.frame_heads") (653 : Nat), code := .ref (321 : Nat) } }) ::
    (nat_lit 323, { cls := .type "tuple", dict := (none : Option Nat), data := .seq #[] }) ::
    (nat_lit 326, { cls := .type "code", dict := (none : Option Nat), data := .fields #[.str (Str.ofString "scan_to_head") (678 : Nat), .str (Str.ofString "scan_to_head") (679 : Nat), .str (Str.ofString "/claim/cut.py") (680 : Nat), .int 159 (0 : Nat), .int 2 (0 : Nat), .int 0 (0 : Nat), .int 0 (0 : Nat), .int 3 (0 : Nat), .ref (323 : Nat), .bool true, .int 181 (0 : Nat), .ref (324 : Nat), .none, .none, .none, .ref (325 : Nat), .int 681 (0 : Nat), .int 159 (0 : Nat), .str (Str.ofString "/claim/cut.py") (682 : Nat)] }) ::
    (nat_lit 327, { cls := .type "function", dict := (none : Option Nat), data := .func { name := Str.ofString "scan_to_head", qualname := Str.ofString "scan_to_head", params := p26, body := .stmts b26, scope := s26, globals := (3 : Nat), closure := ([] : List (Str × Nat)), defaults := .none, kwdefaults := .none, annotations := (none : Option Nat), builtins := (0 : Nat), pyModule := .str (Str.ofString "pixelpress.frame_heads") (653 : Nat), code := .ref (326 : Nat) } }) ::
    (nat_lit 328, { cls := .type "tuple", dict := (none : Option Nat), data := .seq #[] }) ::
    (nat_lit 330, { cls := .type "tuple", dict := (none : Option Nat), data := .seq #[.str (Str.ofString "script") (689 : Nat), .str (Str.ofString "k") (690 : Nat), .str (Str.ofString "cell") (691 : Nat), .str (Str.ofString "big") (692 : Nat), .str (Str.ofString "mixed") (693 : Nat)] }) ::
    (nat_lit 331, { cls := .type "tuple", dict := (none : Option Nat), data := .seq #[] }) ::
    (nat_lit 333, { cls := .type "code", dict := (none : Option Nat), data := .fields #[.str (Str.ofString "_law_pool") (686 : Nat), .str (Str.ofString "_law_pool") (687 : Nat), .str (Str.ofString "/claim/cut.py") (688 : Nat), .int 163 (0 : Nat), .int 2 (0 : Nat), .int 0 (0 : Nat), .int 0 (0 : Nat), .int 3 (0 : Nat), .ref (328 : Nat), .bool true, .int 181 (0 : Nat), .ref (329 : Nat), .none, .ref (330 : Nat), .ref (331 : Nat), .ref (332 : Nat), .int 694 (0 : Nat), .int 163 (0 : Nat), .str (Str.ofString "/claim/cut.py") (695 : Nat)] }) ::
    (nat_lit 334, { cls := .type "function", dict := (none : Option Nat), data := .func { name := Str.ofString "_law_pool", qualname := Str.ofString "_law_pool", params := p27, body := .stmts b27, scope := s27, globals := (3 : Nat), closure := ([] : List (Str × Nat)), defaults := .none, kwdefaults := .none, annotations := (none : Option Nat), builtins := (0 : Nat), pyModule := .str (Str.ofString "law_nz0252_01") (684 : Nat), code := .ref (333 : Nat) } }) ::
    (nat_lit 335, { cls := .type "tuple", dict := (none : Option Nat), data := .seq #[] }) ::
    (nat_lit 337, { cls := .type "tuple", dict := (none : Option Nat), data := .seq #[.str (Str.ofString "source") (700 : Nat), .str (Str.ofString "top") (701 : Nat), .str (Str.ofString "drawn") (702 : Nat)] }) ::
    (nat_lit 338, { cls := .type "tuple", dict := (none : Option Nat), data := .seq #[] }) ::
    (nat_lit 340, { cls := .type "code", dict := (none : Option Nat), data := .fields #[.str (Str.ofString "_law_take") (697 : Nat), .str (Str.ofString "_law_take") (698 : Nat), .str (Str.ofString "/claim/cut.py") (699 : Nat), .int 170 (0 : Nat), .int 2 (0 : Nat), .int 0 (0 : Nat), .int 0 (0 : Nat), .int 3 (0 : Nat), .ref (335 : Nat), .bool true, .int 181 (0 : Nat), .ref (336 : Nat), .none, .ref (337 : Nat), .ref (338 : Nat), .ref (339 : Nat), .int 703 (0 : Nat), .int 170 (0 : Nat), .str (Str.ofString "/claim/cut.py") (704 : Nat)] }) ::
    (nat_lit 341, { cls := .type "function", dict := (none : Option Nat), data := .func { name := Str.ofString "_law_take", qualname := Str.ofString "_law_take", params := p28, body := .stmts b28, scope := s28, globals := (3 : Nat), closure := ([] : List (Str × Nat)), defaults := .none, kwdefaults := .none, annotations := (none : Option Nat), builtins := (0 : Nat), pyModule := .str (Str.ofString "law_nz0252_01") (684 : Nat), code := .ref (340 : Nat) } }) ::
    (nat_lit 342, { cls := .type "tuple", dict := (none : Option Nat), data := .seq #[] }) ::
    (nat_lit 344, { cls := .type "tuple", dict := (none : Option Nat), data := .seq #[.str (Str.ofString "source") (709 : Nat), .str (Str.ofString "things") (710 : Nat)] }) ::
    (nat_lit 345, { cls := .type "tuple", dict := (none : Option Nat), data := .seq #[] }) ::
    (nat_lit 347, { cls := .type "code", dict := (none : Option Nat), data := .fields #[.str (Str.ofString "_law_one") (706 : Nat), .str (Str.ofString "_law_one") (707 : Nat), .str (Str.ofString "/claim/cut.py") (708 : Nat), .int 177 (0 : Nat), .int 2 (0 : Nat), .int 0 (0 : Nat), .int 0 (0 : Nat), .int 3 (0 : Nat), .ref (342 : Nat), .bool true, .int 181 (0 : Nat), .ref (343 : Nat), .none, .ref (344 : Nat), .ref (345 : Nat), .ref (346 : Nat), .int 711 (0 : Nat), .int 177 (0 : Nat), .str (Str.ofString "/claim/cut.py") (712 : Nat)] }) ::
    (nat_lit 348, { cls := .type "function", dict := (none : Option Nat), data := .func { name := Str.ofString "_law_one", qualname := Str.ofString "_law_one", params := p29, body := .stmts b29, scope := s29, globals := (3 : Nat), closure := ([] : List (Str × Nat)), defaults := .none, kwdefaults := .none, annotations := (none : Option Nat), builtins := (0 : Nat), pyModule := .str (Str.ofString "law_nz0252_01") (684 : Nat), code := .ref (347 : Nat) } }) ::
    (nat_lit 349, { cls := .type "tuple", dict := (none : Option Nat), data := .seq #[] }) ::
    (nat_lit 351, { cls := .type "tuple", dict := (none : Option Nat), data := .seq #[.str (Str.ofString "rows") (717 : Nat)] }) ::
    (nat_lit 352, { cls := .type "tuple", dict := (none : Option Nat), data := .seq #[] }) ::
    (nat_lit 354, { cls := .type "code", dict := (none : Option Nat), data := .fields #[.str (Str.ofString "_law_kinds") (714 : Nat), .str (Str.ofString "_law_kinds") (715 : Nat), .str (Str.ofString "/claim/cut.py") (716 : Nat), .int 179 (0 : Nat), .int 0 (0 : Nat), .int 0 (0 : Nat), .int 0 (0 : Nat), .int 3 (0 : Nat), .ref (349 : Nat), .bool true, .int 181 (0 : Nat), .ref (350 : Nat), .none, .ref (351 : Nat), .ref (352 : Nat), .ref (353 : Nat), .int 718 (0 : Nat), .int 179 (0 : Nat), .str (Str.ofString "/claim/cut.py") (719 : Nat)] }) ::
    (nat_lit 355, { cls := .type "function", dict := (none : Option Nat), data := .func { name := Str.ofString "_law_kinds", qualname := Str.ofString "_law_kinds", params := p30, body := .stmts b30, scope := s30, globals := (3 : Nat), closure := ([] : List (Str × Nat)), defaults := .none, kwdefaults := .none, annotations := (none : Option Nat), builtins := (0 : Nat), pyModule := .str (Str.ofString "law_nz0252_01") (684 : Nat), code := .ref (354 : Nat) } }) ::
    (nat_lit 356, { cls := .type "tuple", dict := (none : Option Nat), data := .seq #[] }) ::
    (nat_lit 358, { cls := .type "tuple", dict := (none : Option Nat), data := .seq #[.str (Str.ofString "source") (724 : Nat), .str (Str.ofString "code") (725 : Nat), .str (Str.ofString "first") (726 : Nat), .str (Str.ofString "members") (727 : Nat), .str (Str.ofString "turn") (728 : Nat), .str (Str.ofString "at") (729 : Nat), .str (Str.ofString "way") (730 : Nat)] }) ::
    (nat_lit 359, { cls := .type "tuple", dict := (none : Option Nat), data := .seq #[] }) ::
    (nat_lit 361, { cls := .type "code", dict := (none : Option Nat), data := .fields #[.str (Str.ofString "_law_frame_rows") (721 : Nat), .str (Str.ofString "_law_frame_rows") (722 : Nat), .str (Str.ofString "/claim/cut.py") (723 : Nat), .int 183 (0 : Nat), .int 1 (0 : Nat), .int 0 (0 : Nat), .int 0 (0 : Nat), .int 3 (0 : Nat), .ref (356 : Nat), .bool true, .int 181 (0 : Nat), .ref (357 : Nat), .none, .ref (358 : Nat), .ref (359 : Nat), .ref (360 : Nat), .int 731 (0 : Nat), .int 183 (0 : Nat), .str (Str.ofString "/claim/cut.py") (732 : Nat)] }) ::
    (nat_lit 362, { cls := .type "function", dict := (none : Option Nat), data := .func { name := Str.ofString "_law_frame_rows", qualname := Str.ofString "_law_frame_rows", params := p31, body := .stmts b31, scope := s31, globals := (3 : Nat), closure := ([] : List (Str × Nat)), defaults := .none, kwdefaults := .none, annotations := (none : Option Nat), builtins := (0 : Nat), pyModule := .str (Str.ofString "law_nz0252_01") (684 : Nat), code := .ref (361 : Nat) } }) ::
    (nat_lit 363, { cls := .type "tuple", dict := (none : Option Nat), data := .seq #[] }) ::
    (nat_lit 366, { cls := .type "code", dict := (none : Option Nat), data := .fields #[.str (Str.ofString "_law_is_let") (734 : Nat), .str (Str.ofString "_law_is_let") (735 : Nat), .str (Str.ofString "/claim/cut.py") (736 : Nat), .int 200 (0 : Nat), .int 2 (0 : Nat), .int 0 (0 : Nat), .int 0 (0 : Nat), .int 3 (0 : Nat), .ref (363 : Nat), .bool true, .int 181 (0 : Nat), .ref (364 : Nat), .none, .none, .none, .ref (365 : Nat), .int 737 (0 : Nat), .int 200 (0 : Nat), .str (Str.ofString "/claim/cut.py") (738 : Nat)] }) ::
    (nat_lit 367, { cls := .type "function", dict := (none : Option Nat), data := .func { name := Str.ofString "_law_is_let", qualname := Str.ofString "_law_is_let", params := p32, body := .stmts b32, scope := s32, globals := (3 : Nat), closure := ([] : List (Str × Nat)), defaults := .none, kwdefaults := .none, annotations := (none : Option Nat), builtins := (0 : Nat), pyModule := .str (Str.ofString "law_nz0252_01") (684 : Nat), code := .ref (366 : Nat) } }) ::
    (nat_lit 368, { cls := .type "tuple", dict := (none : Option Nat), data := .seq #[] }) ::
    (nat_lit 371, { cls := .type "code", dict := (none : Option Nat), data := .fields #[.str (Str.ofString "_law_head") (740 : Nat), .str (Str.ofString "_law_head") (741 : Nat), .str (Str.ofString "/claim/cut.py") (742 : Nat), .int 210 (0 : Nat), .int 2 (0 : Nat), .int 0 (0 : Nat), .int 0 (0 : Nat), .int 3 (0 : Nat), .ref (368 : Nat), .bool true, .int 181 (0 : Nat), .ref (369 : Nat), .none, .none, .none, .ref (370 : Nat), .int 743 (0 : Nat), .int 210 (0 : Nat), .str (Str.ofString "/claim/cut.py") (744 : Nat)] }) ::
    (nat_lit 372, { cls := .type "function", dict := (none : Option Nat), data := .func { name := Str.ofString "_law_head", qualname := Str.ofString "_law_head", params := p33, body := .stmts b33, scope := s33, globals := (3 : Nat), closure := ([] : List (Str × Nat)), defaults := .none, kwdefaults := .none, annotations := (none : Option Nat), builtins := (0 : Nat), pyModule := .str (Str.ofString "law_nz0252_01") (684 : Nat), code := .ref (371 : Nat) } }) ::
    (nat_lit 373, { cls := .type "tuple", dict := (none : Option Nat), data := .seq #[] }) ::
    (nat_lit 376, { cls := .type "code", dict := (none : Option Nat), data := .fields #[.str (Str.ofString "_law_rows") (746 : Nat), .str (Str.ofString "_law_rows") (747 : Nat), .str (Str.ofString "/claim/cut.py") (748 : Nat), .int 213 (0 : Nat), .int 1 (0 : Nat), .int 0 (0 : Nat), .int 0 (0 : Nat), .int 3 (0 : Nat), .ref (373 : Nat), .bool true, .int 181 (0 : Nat), .ref (374 : Nat), .none, .none, .none, .ref (375 : Nat), .int 749 (0 : Nat), .int 213 (0 : Nat), .str (Str.ofString "/claim/cut.py") (750 : Nat)] }) ::
    (nat_lit 377, { cls := .type "function", dict := (none : Option Nat), data := .func { name := Str.ofString "_law_rows", qualname := Str.ofString "_law_rows", params := p34, body := .stmts b34, scope := s34, globals := (3 : Nat), closure := ([] : List (Str × Nat)), defaults := .none, kwdefaults := .none, annotations := (none : Option Nat), builtins := (0 : Nat), pyModule := .str (Str.ofString "law_nz0252_01") (684 : Nat), code := .ref (376 : Nat) } }) ::
    (nat_lit 378, { cls := .type "tuple", dict := (none : Option Nat), data := .seq #[] }) ::
    (nat_lit 380, { cls := .type "tuple", dict := (none : Option Nat), data := .seq #[.str (Str.ofString "frame") (755 : Nat), .str (Str.ofString "first") (756 : Nat), .str (Str.ofString "members") (757 : Nat), .str (Str.ofString "side") (758 : Nat), .str (Str.ofString "again") (759 : Nat)] }) ::
    (nat_lit 381, { cls := .type "tuple", dict := (none : Option Nat), data := .seq #[] }) ::
    (nat_lit 383, { cls := .type "code", dict := (none : Option Nat), data := .fields #[.str (Str.ofString "_law_frame_right") (752 : Nat), .str (Str.ofString "_law_frame_right") (753 : Nat), .str (Str.ofString "/claim/cut.py") (754 : Nat), .int 215 (0 : Nat), .int 4 (0 : Nat), .int 0 (0 : Nat), .int 0 (0 : Nat), .int 3 (0 : Nat), .ref (378 : Nat), .bool true, .int 181 (0 : Nat), .ref (379 : Nat), .none, .ref (380 : Nat), .ref (381 : Nat), .ref (382 : Nat), .int 760 (0 : Nat), .int 215 (0 : Nat), .str (Str.ofString "/claim/cut.py") (761 : Nat)] }) ::
    (nat_lit 384, { cls := .type "function", dict := (none : Option Nat), data := .func { name := Str.ofString "_law_frame_right", qualname := Str.ofString "_law_frame_right", params := p35, body := .stmts b35, scope := s35, globals := (3 : Nat), closure := ([] : List (Str × Nat)), defaults := .none, kwdefaults := .none, annotations := (none : Option Nat), builtins := (0 : Nat), pyModule := .str (Str.ofString "law_nz0252_01") (684 : Nat), code := .ref (383 : Nat) } }) ::
    (nat_lit 385, { cls := .type "tuple", dict := (none : Option Nat), data := .seq #[] }) ::
    (nat_lit 388, { cls := .type "code", dict := (none : Option Nat), data := .fields #[.str (Str.ofString "_law_scan_rows") (763 : Nat), .str (Str.ofString "_law_scan_rows") (764 : Nat), .str (Str.ofString "/claim/cut.py") (765 : Nat), .int 222 (0 : Nat), .int 2 (0 : Nat), .int 0 (0 : Nat), .int 0 (0 : Nat), .int 3 (0 : Nat), .ref (385 : Nat), .bool true, .int 181 (0 : Nat), .ref (386 : Nat), .none, .none, .none, .ref (387 : Nat), .int 766 (0 : Nat), .int 222 (0 : Nat), .str (Str.ofString "/claim/cut.py") (767 : Nat)] }) ::
    (nat_lit 389, { cls := .type "function", dict := (none : Option Nat), data := .func { name := Str.ofString "_law_scan_rows", qualname := Str.ofString "_law_scan_rows", params := p36, body := .stmts b36, scope := s36, globals := (3 : Nat), closure := ([] : List (Str × Nat)), defaults := .none, kwdefaults := .none, annotations := (none : Option Nat), builtins := (0 : Nat), pyModule := .str (Str.ofString "law_nz0252_01") (684 : Nat), code := .ref (388 : Nat) } }) ::
    (nat_lit 390, { cls := .type "tuple", dict := (none : Option Nat), data := .seq #[] }) ::
    (nat_lit 392, { cls := .type "tuple", dict := (none : Option Nat), data := .seq #[.str (Str.ofString "rows") (772 : Nat)] }) ::
    (nat_lit 393, { cls := .type "tuple", dict := (none : Option Nat), data := .seq #[] }) ::
    (nat_lit 395, { cls := .type "code", dict := (none : Option Nat), data := .fields #[.str (Str.ofString "_law_scan_head") (769 : Nat), .str (Str.ofString "_law_scan_head") (770 : Nat), .str (Str.ofString "/claim/cut.py") (771 : Nat), .int 226 (0 : Nat), .int 1 (0 : Nat), .int 0 (0 : Nat), .int 0 (0 : Nat), .int 3 (0 : Nat), .ref (390 : Nat), .bool true, .int 181 (0 : Nat), .ref (391 : Nat), .none, .ref (392 : Nat), .ref (393 : Nat), .ref (394 : Nat), .int 773 (0 : Nat), .int 226 (0 : Nat), .str (Str.ofString "/claim/cut.py") (774 : Nat)] }) ::
    (nat_lit 396, { cls := .type "function", dict := (none : Option Nat), data := .func { name := Str.ofString "_law_scan_head", qualname := Str.ofString "_law_scan_head", params := p37, body := .stmts b37, scope := s37, globals := (3 : Nat), closure := ([] : List (Str × Nat)), defaults := .none, kwdefaults := .none, annotations := (none : Option Nat), builtins := (0 : Nat), pyModule := .str (Str.ofString "law_nz0252_01") (684 : Nat), code := .ref (395 : Nat) } }) ::
    (nat_lit 397, { cls := .type "tuple", dict := (none : Option Nat), data := .seq #[] }) ::
    (nat_lit 399, { cls := .type "tuple", dict := (none : Option Nat), data := .seq #[.str (Str.ofString "head") (779 : Nat)] }) ::
    (nat_lit 400, { cls := .type "tuple", dict := (none : Option Nat), data := .seq #[] }) ::
    (nat_lit 402, { cls := .type "code", dict := (none : Option Nat), data := .fields #[.str (Str.ofString "_law_told") (776 : Nat), .str (Str.ofString "_law_told") (777 : Nat), .str (Str.ofString "/claim/cut.py") (778 : Nat), .int 228 (0 : Nat), .int 1 (0 : Nat), .int 0 (0 : Nat), .int 0 (0 : Nat), .int 3 (0 : Nat), .ref (397 : Nat), .bool true, .int 181 (0 : Nat), .ref (398 : Nat), .none, .ref (399 : Nat), .ref (400 : Nat), .ref (401 : Nat), .int 780 (0 : Nat), .int 228 (0 : Nat), .str (Str.ofString "/claim/cut.py") (781 : Nat)] }) ::
    (nat_lit 403, { cls := .type "function", dict := (none : Option Nat), data := .func { name := Str.ofString "_law_told", qualname := Str.ofString "_law_told", params := p38, body := .stmts b38, scope := s38, globals := (3 : Nat), closure := ([] : List (Str × Nat)), defaults := .none, kwdefaults := .none, annotations := (none : Option Nat), builtins := (0 : Nat), pyModule := .str (Str.ofString "law_nz0252_01") (684 : Nat), code := .ref (402 : Nat) } }) ::
    (nat_lit 404, { cls := .type "tuple", dict := (none : Option Nat), data := .seq #[] }) ::
    (nat_lit 407, { cls := .type "code", dict := (none : Option Nat), data := .fields #[.str (Str.ofString "_law_scan_right") (783 : Nat), .str (Str.ofString "_law_scan_right") (784 : Nat), .str (Str.ofString "/claim/cut.py") (785 : Nat), .int 230 (0 : Nat), .int 3 (0 : Nat), .int 0 (0 : Nat), .int 0 (0 : Nat), .int 3 (0 : Nat), .ref (404 : Nat), .bool true, .int 181 (0 : Nat), .ref (405 : Nat), .none, .none, .none, .ref (406 : Nat), .int 786 (0 : Nat), .int 230 (0 : Nat), .str (Str.ofString "/claim/cut.py") (787 : Nat)] }) ::
    (nat_lit 408, { cls := .type "function", dict := (none : Option Nat), data := .func { name := Str.ofString "_law_scan_right", qualname := Str.ofString "_law_scan_right", params := p39, body := .stmts b39, scope := s39, globals := (3 : Nat), closure := ([] : List (Str × Nat)), defaults := .none, kwdefaults := .none, annotations := (none : Option Nat), builtins := (0 : Nat), pyModule := .str (Str.ofString "law_nz0252_01") (684 : Nat), code := .ref (407 : Nat) } }) ::
    (nat_lit 409, { cls := .type "tuple", dict := (none : Option Nat), data := .seq #[] }) ::
    (nat_lit 411, { cls := .type "tuple", dict := (none : Option Nat), data := .seq #[.str (Str.ofString "script") (792 : Nat), .str (Str.ofString "k") (793 : Nat), .str (Str.ofString "source") (794 : Nat), .str (Str.ofString "first") (795 : Nat), .str (Str.ofString "members") (796 : Nat), .str (Str.ofString "side") (797 : Nat), .str (Str.ofString "frame") (798 : Nat)] }) ::
    (nat_lit 412, { cls := .type "tuple", dict := (none : Option Nat), data := .seq #[] }) ::
    (nat_lit 414, { cls := .type "code", dict := (none : Option Nat), data := .fields #[.str (Str.ofString "law") (789 : Nat), .str (Str.ofString "law") (790 : Nat), .str (Str.ofString "/claim/cut.py") (791 : Nat), .int 245 (0 : Nat), .int 1 (0 : Nat), .int 0 (0 : Nat), .int 0 (0 : Nat), .int 3 (0 : Nat), .ref (409 : Nat), .bool true, .int 181 (0 : Nat), .ref (410 : Nat), .none, .ref (411 : Nat), .ref (412 : Nat), .ref (413 : Nat), .int 799 (0 : Nat), .int 245 (0 : Nat), .str (Str.ofString "/claim/cut.py") (800 : Nat)] }) ::
    (nat_lit 415, { cls := .type "function", dict := (none : Option Nat), data := .func { name := Str.ofString "law", qualname := Str.ofString "law", params := p40, body := .stmts b40, scope := s40, globals := (3 : Nat), closure := ([] : List (Str × Nat)), defaults := .none, kwdefaults := .none, annotations := (none : Option Nat), builtins := (0 : Nat), pyModule := .str (Str.ofString "law_nz0252_01") (684 : Nat), code := .ref (414 : Nat) } }) :: [] : List (Nat × Obj))) _ _ _ rfl _ _ _ rfl _ _ _ rfl _ _ _ rfl _ _ _ rfl _ _ _ rfl _ _ _ rfl _ _ _ rfl _ _ _ rfl _ _ _ rfl _ _ _ rfl _ _ _ rfl _ _ _ rfl _ _ _ rfl _ _ _ rfl _ _ _ rfl _ _ _ rfl _ _ _ rfl _ _ _ rfl _ _ _ rfl _ _ _ rfl _ _ _ rfl _ _ _ rfl _ _ _ rfl _ _ _ rfl _ _ _ rfl _ _ _ rfl _ _ _ rfl _ _ _ rfl _ _ _ rfl _ _ _ rfl _ _ _ rfl _ _ _ rfl _ _ _ rfl _ _ _ rfl _ _ _ rfl _ _ _ rfl _ _ _ rfl _ _ _ rfl _ _ _ rfl _ _ _ rfl
noncomputable def hd.view_39 : Program := (fun (v0 : Stmt) (_ : PySem.Challenge.pw_nz0252_01.main.body[0]? = some v0)
    (v2 : Stmt) (_ : PySem.Challenge.pw_nz0252_01.main.body[2]? = some v2)
    (v3 : Stmt) (_ : PySem.Challenge.pw_nz0252_01.main.body[3]? = some v3)
    (v4 : Stmt) (_ : PySem.Challenge.pw_nz0252_01.main.body[4]? = some v4)
    (v6 : Stmt) (_ : PySem.Challenge.pw_nz0252_01.main.body[6]? = some v6)
    (v7 : Stmt) (_ : PySem.Challenge.pw_nz0252_01.main.body[7]? = some v7)
    (v8 : Stmt) (_ : PySem.Challenge.pw_nz0252_01.main.body[8]? = some v8)
    (v9 : Stmt) (_ : PySem.Challenge.pw_nz0252_01.main.body[9]? = some v9)
    (v10 : Stmt) (_ : PySem.Challenge.pw_nz0252_01.main.body[10]? = some v10)
    (v11 : Stmt) (_ : PySem.Challenge.pw_nz0252_01.main.body[11]? = some v11)
    (v12 : Stmt) (_ : PySem.Challenge.pw_nz0252_01.main.body[12]? = some v12)
    (v13 : Stmt) (_ : PySem.Challenge.pw_nz0252_01.main.body[13]? = some v13)
    (v14 : Stmt) (_ : PySem.Challenge.pw_nz0252_01.main.body[14]? = some v14)
    (v15 : Stmt) (_ : PySem.Challenge.pw_nz0252_01.main.body[15]? = some v15)
    (v16 : Stmt) (_ : PySem.Challenge.pw_nz0252_01.main.body[16]? = some v16)
    (v17 : Stmt) (_ : PySem.Challenge.pw_nz0252_01.main.body[17]? = some v17)
    (v18 : Stmt) (_ : PySem.Challenge.pw_nz0252_01.main.body[18]? = some v18)
    (v20 : Stmt) (_ : PySem.Challenge.pw_nz0252_01.main.body[20]? = some v20)
    (v21 : Stmt) (_ : PySem.Challenge.pw_nz0252_01.main.body[21]? = some v21)
    (v22 : Stmt) (_ : PySem.Challenge.pw_nz0252_01.main.body[22]? = some v22)
    (v24 : Stmt) (_ : PySem.Challenge.pw_nz0252_01.main.body[24]? = some v24)
    (v26 : Stmt) (_ : PySem.Challenge.pw_nz0252_01.main.body[26]? = some v26)
    (v27 : Stmt) (_ : PySem.Challenge.pw_nz0252_01.main.body[27]? = some v27)
    (v28 : Stmt) (_ : PySem.Challenge.pw_nz0252_01.main.body[28]? = some v28)
    (v29 : Stmt) (_ : PySem.Challenge.pw_nz0252_01.main.body[29]? = some v29)
    (v31 : Stmt) (_ : PySem.Challenge.pw_nz0252_01.main.body[31]? = some v31)
    (v32 : Stmt) (_ : PySem.Challenge.pw_nz0252_01.main.body[32]? = some v32)
    (v33 : Stmt) (_ : PySem.Challenge.pw_nz0252_01.main.body[33]? = some v33)
    (v34 : Stmt) (_ : PySem.Challenge.pw_nz0252_01.main.body[34]? = some v34)
    (v35 : Stmt) (_ : PySem.Challenge.pw_nz0252_01.main.body[35]? = some v35)
    (v36 : Stmt) (_ : PySem.Challenge.pw_nz0252_01.main.body[36]? = some v36)
    (v37 : Stmt) (_ : PySem.Challenge.pw_nz0252_01.main.body[37]? = some v37)
    (v38 : Stmt) (_ : PySem.Challenge.pw_nz0252_01.main.body[38]? = some v38)
    (v39 : Stmt) (_ : PySem.Challenge.pw_nz0252_01.main.body[39]? = some v39)
    (v40 : Stmt) (_ : PySem.Challenge.pw_nz0252_01.main.body[40]? = some v40)
    (v41 : Stmt) (_ : PySem.Challenge.pw_nz0252_01.main.body[41]? = some v41)
    (v42 : Stmt) (_ : PySem.Challenge.pw_nz0252_01.main.body[42]? = some v42)
    (v43 : Stmt) (_ : PySem.Challenge.pw_nz0252_01.main.body[43]? = some v43)
    (v44 : Stmt) (_ : PySem.Challenge.pw_nz0252_01.main.body[44]? = some v44) => ({ PySem.Challenge.rw_nz0252_01.row.prog with main := { PySem.Challenge.rw_nz0252_01.row.prog.main with body := v0 :: v2 :: v3 :: v4 :: v6 :: v7 :: v8 :: v9 :: v10 :: v11 :: v12 :: v13 :: v14 :: v15 :: v16 :: v17 :: v18 :: v20 :: v21 :: v22 :: v24 :: v26 :: v27 :: v28 :: v29 :: v31 :: v32 :: v33 :: v34 :: v35 :: v36 :: v37 :: v38 :: v39 :: v40 :: v41 :: v42 :: v43 :: v44 :: [] } } : Program)) _ rfl _ rfl _ rfl _ rfl _ rfl _ rfl _ rfl _ rfl _ rfl _ rfl _ rfl _ rfl _ rfl _ rfl _ rfl _ rfl _ rfl _ rfl _ rfl _ rfl _ rfl _ rfl _ rfl _ rfl _ rfl _ rfl _ rfl _ rfl _ rfl _ rfl _ rfl _ rfl _ rfl _ rfl _ rfl _ rfl _ rfl _ rfl _ rfl
def hd.addrs : List Addr := [2, 3, 15, 17, 18, 20, 21, 22, 29, 31, 32, 34, 35, 36, 37, 38, 39, 42, 49, 50, 51, 54, 61, 62, 63, 66, 67, 68, 69, 70, 71, 72, 73, 74, 75, 76, 77, 78, 79, 81, 82, 84, 85, 93, 95, 96, 98, 99, 100, 101, 102, 103, 104, 114, 116, 117, 119, 120, 121, 124, 125, 126, 129, 130, 131, 133, 134, 136, 137, 138, 140, 141, 143, 144, 145, 147, 148, 150, 151, 152, 154, 155, 157, 158, 159, 161, 162, 164, 165, 166, 167, 168, 169, 170, 173, 175, 176, 178, 179, 180, 182, 183, 185, 186, 187, 189, 190, 192, 193, 194, 196, 197, 199, 200, 201, 203, 204, 206, 207, 215, 217, 218, 220, 221, 222, 223, 224, 225, 226, 236, 238, 239, 241, 242, 243, 244, 245, 246, 247, 257, 259, 260, 262, 263, 264, 265, 266, 267, 268, 278, 280, 281, 283, 284, 285, 287, 288, 290, 291, 292, 294, 295, 297, 298, 299, 300, 301, 302, 303, 306, 309, 310, 311, 314, 315, 316, 318, 319, 321, 322, 323, 326, 327, 328, 330, 331, 333, 334, 335, 337, 338, 340, 341, 342, 344, 345, 347, 348, 349, 351, 352, 354, 355, 356, 358, 359, 361, 362, 363, 366, 367, 368, 371, 372, 373, 376, 377, 378, 380, 381, 383, 384, 385, 388, 389, 390, 392, 393, 395, 396, 397, 399, 400, 402, 403, 404, 407, 408, 409, 411, 412, 414, 415]
theorem hd.addrs_eq : ∀ P, hd.addrs = (hd.heap_39 P).map (·.1) := fun _ => by kernel_rfl
noncomputable abbrev hd.hook : Hook := kHook hd.heap_39 hd.addrs hd.addrs_eq
noncomputable def hd.Xt (s : Shared) : Bool := xlAt hd.view_39 [] s && recOk (RowW.records PySem.Challenge.rw_nz0252_01.row.toRowW) s
noncomputable def hd.t_env : Env := { scope := PySem.Challenge.pw_nz0252_01.main.scope, locals := mainNs, globals := mainNs, cells := [], code := .ref 13, frame := some 14 }
noncomputable def hd.t_o43 (_P : Params) : Obj := { cls := .type "tuple", data := .seq #[] }
noncomputable def hd.t_o44 (_P : Params) : Obj := { cls := .none, data := .fields #[] }
noncomputable def hd.t_o45 (_P : Params) : Obj := { cls := .type "code", data := .fields #[.str (Str.ofString "<module>") 182, .str (Str.ofString "<module>") 183, .str (Str.ofString "/claim/cut.py") 184, .int 1 0, .int 0 0, .int 0 0, .int 0 0, .int 0 0, .ref 11, .bool false, .int 181 0, .ref 12, .none, .none, .none, .none, .int 185 0, .int 1 0, .str (Str.ofString "/claim/cut.py") 186] }
noncomputable def hd.t_o46 (_P : Params) : Obj := { cls := .type "frame", slots := #[some (.ref 13), some (.ref 3), some (.ref 3), none, some (.str (Str.ofString "__main__") 164), none, some (.ref 0)] }
noncomputable def hd.t_tree (P : Params) : BT := .node (boot_o_0 P) (.node (boot_o_1 P) (.node (boot_o_3 P) (.node (boot_o_7 P) .nil .nil) (.node (hd.t_o43 P) .nil .nil)) (.node (boot_o_5 P) (.node (boot_o_9 P) .nil .nil) (.node (hd.t_o45 P) .nil .nil))) (.node (boot_o_2 P) (.node (boot_o_4 P) (.node (boot_o_8 P) .nil .nil) (.node (hd.t_o44 P) .nil .nil)) (.node (boot_o_6 P) (.node (boot_o_10 P) .nil .nil) (.node (hd.t_o46 P) .nil .nil)))
noncomputable def hd.t_c : Code := .body (behindTheImports PySem.Challenge.pw_nz0252_01) hd.t_env
def hd.t_p0 : Pos := ⟨0, 0, 0, 0⟩
noncomputable def hd.t_sa (w : World) (os : OsState) : Shared := ⟨⟨⟨[boot_o_0 w.params, boot_o_1 w.params, boot_o_2 w.params, boot_o_3 w.params, boot_o_4 w.params, boot_o_5 w.params, boot_o_6 w.params, boot_o_7 w.params, boot_o_8 w.params, boot_o_9 w.params, boot_o_10 w.params, hd.t_o43 w.params, hd.t_o44 w.params, hd.t_o45 w.params, hd.t_o46 w.params]⟩, {}⟩, ⟨[]⟩, boot_drawn, 187, os⟩
noncomputable def hd.t_sb (w : World) (os : OsState) : SharedT := ⟨hd.t_tree w.params, 15, {}, ⟨[]⟩, boot_drawn, 187, os⟩
theorem hd.t_pre (w : World) (os : OsState) : topGo treeTable PySem.Challenge.pw_nz0252_01 w 11 (some (.ref 6)) 12 ⟨boot_heap w.params, ⟨[]⟩, boot_drawn, boot_toks, os⟩ (topStub PySem.Challenge.pw_nz0252_01) = some (hd.t_sa w os, ⟨denote treeTable hd.t_c, hd.t_c, hd.t_p0, [topFrame hd.t_p0]⟩) := by kernel_rfl
theorem hd.t_block (w : World) (os : OsState) : segRun treeTable PySem.Challenge.pw_nz0252_01 w 11 (some (.ref 6)) 1 1 (hd.t_sa w os) (blockOf (behindTheImports PySem.Challenge.pw_nz0252_01) hd.t_env hd.t_c hd.t_p0 [topFrame hd.t_p0]) = some (.next, (hd.t_sb w os).abs, hd.t_c, hd.t_p0) := by kernel_rfl

noncomputable def hd.f0 := (fdAt 0).get rfl
noncomputable def hd.f1 := (mdAt 2 0).get rfl
noncomputable def hd.f2 := (fdAt 11).get rfl
noncomputable def hd.f3 := (mdAt 12 0).get rfl
noncomputable def hd.f4 := (mdAt 13 0).get rfl
noncomputable def hd.f5 := (mdAt 13 1).get rfl
noncomputable def hd.f6 := (mdAt 13 2).get rfl
noncomputable def hd.f7 := (mdAt 13 3).get rfl
noncomputable def hd.f8 := (mdAt 13 4).get rfl
noncomputable def hd.f9 := (mdAt 13 5).get rfl
noncomputable def hd.f10 := (mdAt 13 6).get rfl
noncomputable def hd.f11 := (mdAt 13 7).get rfl
noncomputable def hd.f12 := (fdAt 14).get rfl
noncomputable def hd.f13 := (fdAt 15).get rfl
noncomputable def hd.f14 := (fdAt 16).get rfl
noncomputable def hd.f15 := (fdAt 17).get rfl
noncomputable def hd.f16 := (fdAt 18).get rfl
noncomputable def hd.f17 := (mdAt 20 0).get rfl
noncomputable def hd.f18 := (mdAt 21 0).get rfl
noncomputable def hd.f19 := (mdAt 22 0).get rfl
noncomputable def hd.f20 := (mdAt 24 0).get rfl
noncomputable def hd.f21 := (mdAt 24 1).get rfl
noncomputable def hd.f22 := (mdAt 24 2).get rfl
noncomputable def hd.f23 := (fdAt 26).get rfl
noncomputable def hd.f24 := (fdAt 27).get rfl
noncomputable def hd.f25 := (fdAt 28).get rfl
noncomputable def hd.f26 := (fdAt 29).get rfl
noncomputable def hd.f27 := (fdAt 31).get rfl
noncomputable def hd.f28 := (fdAt 32).get rfl
noncomputable def hd.f29 := (fdAt 33).get rfl
noncomputable def hd.f30 := (fdAt 34).get rfl
noncomputable def hd.f31 := (fdAt 35).get rfl
noncomputable def hd.f32 := (fdAt 36).get rfl
noncomputable def hd.f33 := (fdAt 37).get rfl
noncomputable def hd.f34 := (fdAt 38).get rfl
noncomputable def hd.f35 := (fdAt 39).get rfl
noncomputable def hd.f36 := (fdAt 40).get rfl
noncomputable def hd.f37 := (fdAt 41).get rfl
noncomputable def hd.f38 := (fdAt 42).get rfl
noncomputable def hd.f39 := (fdAt 43).get rfl
noncomputable def hd.f40 := (fdAt 44).get rfl
noncomputable def hd.x2 (P : Params) : Obj := .mk .none none (.dict #[.mk (PyData.keyHash P (Str.ofString "type.__subclasses__.Exception.0")) (.str (Str.ofString "type.__subclasses__.Exception.0") 221) (.int 38 0), .mk (PyData.keyHash P (Str.ofString "type.__subclasses__.Exception.n")) (.str (Str.ofString "type.__subclasses__.Exception.n") 222) (.int 1 0)] 2) #[]
noncomputable def hd.x3 (P : Params) : Obj := .mk (.type "dict") none (.dict #[.mk (PyData.keyHash P (Str.ofString "__name__")) (.str (Str.ofString "__name__") 165) (.str (Str.ofString "pixelpress.frames") 257), .mk (PyData.keyHash P (Str.ofString "__doc__")) (.str (Str.ofString "__doc__") 166) .none, .mk (PyData.keyHash P (Str.ofString "__package__")) (.str (Str.ofString "__package__") 167) .none, .mk (PyData.keyHash P (Str.ofString "__loader__")) (.str (Str.ofString "__loader__") 168) (.builtin "__main__.__loader__#opaque"), .mk (PyData.keyHash P (Str.ofString "__spec__")) (.str (Str.ofString "__spec__") 169) .none, .mk (PyData.keyHash P (Str.ofString "__annotations__")) (.str (Str.ofString "__annotations__") 170) (.ref 6), .mk (PyData.keyHash P (Str.ofString "__builtins__")) (.str (Str.ofString "__builtins__") 171) (.ref 4), .mk (PyData.keyHash P (Str.ofString "__file__")) (.str (Str.ofString "__file__") 173) (.str (Str.ofString "/claim/cut.py") 172), .mk (PyData.keyHash P (Str.ofString "__cached__")) (.str (Str.ofString "__cached__") 174) .none, .mk (PyData.keyHash P (Str.ofString "_wall")) (.str (Str.ofString "_wall") 193) (.ref 21), .mk (PyData.keyHash P (Str.ofString "PressError")) (.str (Str.ofString "PressError") 224) (.ref 38), .mk (PyData.keyHash P (Str.ofString "FrameError")) (.str (Str.ofString "FrameError") 240) (.ref 51), .mk (PyData.keyHash P (Str.ofString "ScanError")) (.str (Str.ofString "ScanError") 256) (.ref 63), .mk (PyData.keyHash P (Str.ofString "KINDS")) (.str (Str.ofString "KINDS") 295) (.ref 78)] 14) #[]
noncomputable def hd.x12 (_P : Params) : Obj := .mk .none none (.fields #[.int 1 0, .int 0 0, .ref 20, .int 5 0, .int 0 0, .ref 27, .int 10 0, .int 0 0, .ref 47, .int 12 0, .int 0 0, .ref 59]) #[]
noncomputable def hd.x15 (_P : Params) : Obj := .mk (.type "tuple") none (.seq #[]) #[]
noncomputable def hd.x16 (_P : Params) : Obj := .mk .none none (.fields #[]) #[]
noncomputable def hd.x17 (_P : Params) : Obj := .mk (.type "tuple") none (.seq #[.str (Str.ofString "k") 190]) #[]
noncomputable def hd.x18 (_P : Params) : Obj := .mk (.type "tuple") none (.seq #[]) #[]
noncomputable def hd.x19 (_P : Params) : Obj := .mk .none none (.func (.mk (Str.ofString "_wall") (Str.ofString "_wall") hd.f0.1 (.stmts hd.f0.2.1) hd.f0.2.2 0 [] .none .none .none .none none .none .none 0)) #[]
noncomputable def hd.x20 (_P : Params) : Obj := .mk (.type "code") none (.fields #[.str (Str.ofString "_wall") 187, .str (Str.ofString "_wall") 188, .str (Str.ofString "/claim/cut.py") 189, .int 1 0, .int 1 0, .int 0 0, .int 0 0, .int 3 0, .ref 15, .bool true, .int 181 0, .ref 16, .none, .ref 17, .ref 18, .ref 19, .int 191 0, .int 1 0, .str (Str.ofString "/claim/cut.py") 192]) #[]
noncomputable def hd.x21 (_P : Params) : Obj := .mk (.type "function") none (.func (.mk (Str.ofString "_wall") (Str.ofString "_wall") hd.f0.1 (.stmts hd.f0.2.1) hd.f0.2.2 3 [] .none .none .none (.str (Str.ofString "__main__") 164) none (.ref 20) .none 0)) #[]
noncomputable def hd.x22 (_P : Params) : Obj := .mk (.type "tuple") none (.seq #[.type "Exception"]) #[]
noncomputable def hd.x23 (_P : Params) : Obj := .mk (.type "builtin_function_or_method") none (.fields #[.builtin "type.__prepare__", .type "type"]) #[]
noncomputable def hd.x24 (P : Params) : Obj := .mk (.type "dict") none (.dict #[.mk (PyData.keyHash P (Str.ofString "__module__")) (.str (Str.ofString "__module__") 203) (.str (Str.ofString "pixelpress.errors") 194), .mk (PyData.keyHash P (Str.ofString "__qualname__")) (.str (Str.ofString "__qualname__") 205) (.str (Str.ofString "PressError") 204), .mk (PyData.keyHash P (Str.ofString "__firstlineno__")) (.str (Str.ofString "__firstlineno__") 207) (.int 5 206), .mk (PyData.keyHash P (Str.ofString "__init__")) (.str (Str.ofString "__init__") 215) (.ref 35), .mk (PyData.keyHash P (Str.ofString "__static_attributes__")) (.str (Str.ofString "__static_attributes__") 217) (.ref 36)] 5) #[]
noncomputable def hd.x25 (_P : Params) : Obj := .mk (.type "tuple") none (.seq #[]) #[]
noncomputable def hd.x26 (_P : Params) : Obj := .mk .none none (.fields #[.int 7 0, .int 4 0, .ref 34]) #[]
noncomputable def hd.x27 (_P : Params) : Obj := .mk (.type "code") none (.fields #[.str (Str.ofString "PressError") 198, .str (Str.ofString "PressError") 199, .str (Str.ofString "/claim/cut.py") 200, .int 5 0, .int 0 0, .int 0 0, .int 0 0, .int 0 0, .ref 25, .bool false, .int 181 0, .ref 26, .none, .none, .none, .none, .int 201 0, .int 5 0, .str (Str.ofString "/claim/cut.py") 202]) #[]
noncomputable def hd.x28 (_P : Params) : Obj := .mk (.type "frame") none .plain #[some (.ref 27), some (.ref 3), some (.ref 24), none, some (.str (Str.ofString "pixelpress.errors") 194), none, some (.ref 0)]
noncomputable def hd.x29 (_P : Params) : Obj := .mk (.type "tuple") none (.seq #[]) #[]
noncomputable def hd.x30 (_P : Params) : Obj := .mk .none none (.fields #[]) #[]
noncomputable def hd.x31 (_P : Params) : Obj := .mk (.type "tuple") none (.seq #[.str (Str.ofString "self") 211, .str (Str.ofString "message") 212]) #[]
noncomputable def hd.x32 (_P : Params) : Obj := .mk (.type "tuple") none (.seq #[]) #[]
noncomputable def hd.x33 (_P : Params) : Obj := .mk .none none (.func (.mk (Str.ofString "__init__") (Str.ofString "PressError.__init__") hd.f1.1 (.stmts hd.f1.2.1) hd.f1.2.2 0 [] .none .none .none .none none .none .none 0)) #[]
noncomputable def hd.x34 (_P : Params) : Obj := .mk (.type "code") none (.fields #[.str (Str.ofString "__init__") 208, .str (Str.ofString "PressError.__init__") 209, .str (Str.ofString "/claim/cut.py") 210, .int 7 0, .int 2 0, .int 0 0, .int 0 0, .int 3 0, .ref 29, .bool true, .int 181 0, .ref 30, .none, .ref 31, .ref 32, .ref 33, .int 213 0, .int 7 0, .str (Str.ofString "/claim/cut.py") 214]) #[]
noncomputable def hd.x35 (_P : Params) : Obj := .mk (.type "function") none (.func (.mk (Str.ofString "__init__") (Str.ofString "PressError.__init__") hd.f1.1 (.stmts hd.f1.2.1) hd.f1.2.2 3 [] .none .none .none (.str (Str.ofString "pixelpress.errors") 194) none (.ref 34) .none 0)) #[]
noncomputable def hd.x36 (_P : Params) : Obj := .mk (.type "tuple") none (.seq #[.str (Str.ofString "message") 216]) #[]
noncomputable def hd.x37 (P : Params) : Obj := .mk (.type "dict") none (.dict #[.mk (PyData.keyHash P (Str.ofString "__module__")) (.str (Str.ofString "__module__") 203) (.str (Str.ofString "pixelpress.errors") 194), .mk (PyData.keyHash P (Str.ofString "__firstlineno__")) (.str (Str.ofString "__firstlineno__") 207) (.int 5 206), .mk (PyData.keyHash P (Str.ofString "__init__")) (.str (Str.ofString "__init__") 215) (.ref 35), .mk (PyData.keyHash P (Str.ofString "__static_attributes__")) (.str (Str.ofString "__static_attributes__") 217) (.ref 36), .mk (PyData.keyHash P (Str.ofString "__weakref__")) (.str (Str.ofString "__weakref__") 219) (.ref 39), .mk (PyData.keyHash P (Str.ofString "__doc__")) (.str (Str.ofString "__doc__") 220) .none] 3) #[]
noncomputable def hd.x38 (_P : Params) : Obj := .mk (.type "type") none (.cls (.mk (Str.ofString "PressError") [.type "Exception"] [.ref 38, .type "Exception", .type "BaseException", .type "object"] 37 (Str.ofString "PressError") true [] [.ref 51, .ref 63] false none false)) #[some (.ref 22), none, some (.str (Str.ofString "PressError") 196), some (.str (Str.ofString "PressError") 204), some (.builtin "Exception.__new__"), some (.bool true)]
noncomputable def hd.x39 (_P : Params) : Obj := .mk (.type "getset_descriptor") none (.fields #[.str (Str.ofString "__weakref__") 218, .ref 38, .builtin "ExceptionGroup.__weakref__", .none]) #[]
noncomputable def hd.x40 (_P : Params) : Obj := .mk (.type "super") none (.fields #[.ref 38, .ref 38, .ref 38]) #[]
noncomputable def hd.x41 (_P : Params) : Obj := .mk (.type "builtin_function_or_method") none (.fields #[.builtin "object.__init_subclass__", .ref 38]) #[]
noncomputable def hd.x42 (_P : Params) : Obj := .mk (.type "tuple") none (.seq #[.ref 38]) #[]
noncomputable def hd.x43 (_P : Params) : Obj := .mk (.type "builtin_function_or_method") none (.fields #[.builtin "type.__prepare__", .type "type"]) #[]
noncomputable def hd.x44 (P : Params) : Obj := .mk (.type "dict") none (.dict #[.mk (PyData.keyHash P (Str.ofString "__module__")) (.str (Str.ofString "__module__") 232) (.str (Str.ofString "pixelpress.errors") 194), .mk (PyData.keyHash P (Str.ofString "__qualname__")) (.str (Str.ofString "__qualname__") 234) (.str (Str.ofString "FrameError") 233), .mk (PyData.keyHash P (Str.ofString "__firstlineno__")) (.str (Str.ofString "__firstlineno__") 236) (.int 10 235), .mk (PyData.keyHash P (Str.ofString "__static_attributes__")) (.str (Str.ofString "__static_attributes__") 237) (.ref 49)] 4) #[]
noncomputable def hd.x45 (_P : Params) : Obj := .mk (.type "tuple") none (.seq #[]) #[]
noncomputable def hd.x46 (_P : Params) : Obj := .mk .none none (.fields #[]) #[]
noncomputable def hd.x47 (_P : Params) : Obj := .mk (.type "code") none (.fields #[.str (Str.ofString "FrameError") 227, .str (Str.ofString "FrameError") 228, .str (Str.ofString "/claim/cut.py") 229, .int 10 0, .int 0 0, .int 0 0, .int 0 0, .int 0 0, .ref 45, .bool false, .int 181 0, .ref 46, .none, .none, .none, .none, .int 230 0, .int 10 0, .str (Str.ofString "/claim/cut.py") 231]) #[]
noncomputable def hd.x48 (_P : Params) : Obj := .mk (.type "frame") none .plain #[some (.ref 47), some (.ref 3), some (.ref 44), none, some (.str (Str.ofString "pixelpress.errors") 194), none, some (.ref 0)]
noncomputable def hd.x49 (_P : Params) : Obj := .mk (.type "tuple") none (.seq #[]) #[]
noncomputable def hd.x50 (P : Params) : Obj := .mk (.type "dict") none (.dict #[.mk (PyData.keyHash P (Str.ofString "__module__")) (.str (Str.ofString "__module__") 232) (.str (Str.ofString "pixelpress.errors") 194), .mk (PyData.keyHash P (Str.ofString "__firstlineno__")) (.str (Str.ofString "__firstlineno__") 236) (.int 10 235), .mk (PyData.keyHash P (Str.ofString "__static_attributes__")) (.str (Str.ofString "__static_attributes__") 237) (.ref 49), .mk (PyData.keyHash P (Str.ofString "__doc__")) (.str (Str.ofString "__doc__") 238) .none] 2) #[]
noncomputable def hd.x51 (_P : Params) : Obj := .mk (.type "type") none (.cls (.mk (Str.ofString "FrameError") [.ref 38] [.ref 51, .ref 38, .type "Exception", .type "BaseException", .type "object"] 50 (Str.ofString "FrameError") true [] [] false none false)) #[some (.ref 42), none, some (.str (Str.ofString "FrameError") 225), some (.str (Str.ofString "FrameError") 233), some (.builtin "Exception.__new__"), some (.bool true)]
noncomputable def hd.x52 (_P : Params) : Obj := .mk (.type "super") none (.fields #[.ref 51, .ref 51, .ref 51]) #[]
noncomputable def hd.x53 (_P : Params) : Obj := .mk (.type "builtin_function_or_method") none (.fields #[.builtin "object.__init_subclass__", .ref 51]) #[]
noncomputable def hd.x54 (_P : Params) : Obj := .mk (.type "tuple") none (.seq #[.ref 38]) #[]
noncomputable def hd.x55 (_P : Params) : Obj := .mk (.type "builtin_function_or_method") none (.fields #[.builtin "type.__prepare__", .type "type"]) #[]
noncomputable def hd.x56 (P : Params) : Obj := .mk (.type "dict") none (.dict #[.mk (PyData.keyHash P (Str.ofString "__module__")) (.str (Str.ofString "__module__") 248) (.str (Str.ofString "pixelpress.errors") 194), .mk (PyData.keyHash P (Str.ofString "__qualname__")) (.str (Str.ofString "__qualname__") 250) (.str (Str.ofString "ScanError") 249), .mk (PyData.keyHash P (Str.ofString "__firstlineno__")) (.str (Str.ofString "__firstlineno__") 252) (.int 12 251), .mk (PyData.keyHash P (Str.ofString "__static_attributes__")) (.str (Str.ofString "__static_attributes__") 253) (.ref 61)] 4) #[]
noncomputable def hd.x57 (_P : Params) : Obj := .mk (.type "tuple") none (.seq #[]) #[]
noncomputable def hd.x58 (_P : Params) : Obj := .mk .none none (.fields #[]) #[]
noncomputable def hd.x59 (_P : Params) : Obj := .mk (.type "code") none (.fields #[.str (Str.ofString "ScanError") 243, .str (Str.ofString "ScanError") 244, .str (Str.ofString "/claim/cut.py") 245, .int 12 0, .int 0 0, .int 0 0, .int 0 0, .int 0 0, .ref 57, .bool false, .int 181 0, .ref 58, .none, .none, .none, .none, .int 246 0, .int 12 0, .str (Str.ofString "/claim/cut.py") 247]) #[]
noncomputable def hd.x60 (_P : Params) : Obj := .mk (.type "frame") none .plain #[some (.ref 59), some (.ref 3), some (.ref 56), none, some (.str (Str.ofString "pixelpress.errors") 194), none, some (.ref 0)]
noncomputable def hd.x61 (_P : Params) : Obj := .mk (.type "tuple") none (.seq #[]) #[]
noncomputable def hd.x62 (P : Params) : Obj := .mk (.type "dict") none (.dict #[.mk (PyData.keyHash P (Str.ofString "__module__")) (.str (Str.ofString "__module__") 248) (.str (Str.ofString "pixelpress.errors") 194), .mk (PyData.keyHash P (Str.ofString "__firstlineno__")) (.str (Str.ofString "__firstlineno__") 252) (.int 12 251), .mk (PyData.keyHash P (Str.ofString "__static_attributes__")) (.str (Str.ofString "__static_attributes__") 253) (.ref 61), .mk (PyData.keyHash P (Str.ofString "__doc__")) (.str (Str.ofString "__doc__") 254) .none] 2) #[]
noncomputable def hd.x63 (_P : Params) : Obj := .mk (.type "type") none (.cls (.mk (Str.ofString "ScanError") [.ref 38] [.ref 63, .ref 38, .type "Exception", .type "BaseException", .type "object"] 62 (Str.ofString "ScanError") true [] [] false none false)) #[some (.ref 54), none, some (.str (Str.ofString "ScanError") 241), some (.str (Str.ofString "ScanError") 249), some (.builtin "Exception.__new__"), some (.bool true)]
noncomputable def hd.x64 (_P : Params) : Obj := .mk (.type "super") none (.fields #[.ref 63, .ref 63, .ref 63]) #[]
noncomputable def hd.x65 (_P : Params) : Obj := .mk (.type "builtin_function_or_method") none (.fields #[.builtin "object.__init_subclass__", .ref 63]) #[]
noncomputable def hd.x66 (_P : Params) : Obj := .mk (.type "tuple") none (.seq #[.int 8 261]) #[]
noncomputable def hd.x67 (_P : Params) : Obj := .mk (.type "tuple") none (.seq #[.str (Str.ofString "baseline") 259, .int 192 260, .ref 66]) #[]
noncomputable def hd.x68 (_P : Params) : Obj := .mk (.type "tuple") none (.seq #[.int 8 264, .int 12 265]) #[]
noncomputable def hd.x69 (_P : Params) : Obj := .mk (.type "tuple") none (.seq #[.str (Str.ofString "extended") 262, .int 193 263, .ref 68]) #[]
noncomputable def hd.x70 (_P : Params) : Obj := .mk (.type "tuple") none (.seq #[.int 8 268, .int 12 269]) #[]
noncomputable def hd.x71 (_P : Params) : Obj := .mk (.type "tuple") none (.seq #[.str (Str.ofString "progressive") 266, .int 194 267, .ref 70]) #[]
noncomputable def hd.x72 (_P : Params) : Obj := .mk (.type "tuple") none (.seq #[.int 2 272, .int 3 273, .int 4 274, .int 5 275, .int 6 276, .int 7 277, .int 8 278, .int 9 279, .int 10 280, .int 11 281, .int 12 282, .int 13 283, .int 14 284, .int 15 285, .int 16 286]) #[]
noncomputable def hd.x73 (_P : Params) : Obj := .mk (.type "tuple") none (.seq #[.str (Str.ofString "lossless") 270, .int 195 271, .ref 72]) #[]
noncomputable def hd.x74 (_P : Params) : Obj := .mk (.type "tuple") none (.seq #[.int 8 289, .int 12 290]) #[]
noncomputable def hd.x75 (_P : Params) : Obj := .mk (.type "tuple") none (.seq #[.str (Str.ofString "arith") 287, .int 201 288, .ref 74]) #[]
noncomputable def hd.x76 (_P : Params) : Obj := .mk (.type "tuple") none (.seq #[.int 8 293, .int 12 294]) #[]
noncomputable def hd.x77 (_P : Params) : Obj := .mk (.type "tuple") none (.seq #[.str (Str.ofString "arith progressive") 291, .int 202 292, .ref 76]) #[]
noncomputable def hd.x78 (_P : Params) : Obj := .mk (.type "tuple") none (.seq #[.ref 67, .ref 69, .ref 71, .ref 73, .ref 75, .ref 77]) #[]
noncomputable def hd.x3_1 (P : Params) : Obj := .mk (.type "dict") none (.dict #[.mk (PyData.keyHash P (Str.ofString "__name__")) (.str (Str.ofString "__name__") 165) (.str (Str.ofString "pixelpress.frames") 257), .mk (PyData.keyHash P (Str.ofString "__doc__")) (.str (Str.ofString "__doc__") 166) .none, .mk (PyData.keyHash P (Str.ofString "__package__")) (.str (Str.ofString "__package__") 167) .none, .mk (PyData.keyHash P (Str.ofString "__loader__")) (.str (Str.ofString "__loader__") 168) (.builtin "__main__.__loader__#opaque"), .mk (PyData.keyHash P (Str.ofString "__spec__")) (.str (Str.ofString "__spec__") 169) .none, .mk (PyData.keyHash P (Str.ofString "__annotations__")) (.str (Str.ofString "__annotations__") 170) (.ref 6), .mk (PyData.keyHash P (Str.ofString "__builtins__")) (.str (Str.ofString "__builtins__") 171) (.ref 4), .mk (PyData.keyHash P (Str.ofString "__file__")) (.str (Str.ofString "__file__") 173) (.str (Str.ofString "/claim/cut.py") 172), .mk (PyData.keyHash P (Str.ofString "__cached__")) (.str (Str.ofString "__cached__") 174) .none, .mk (PyData.keyHash P (Str.ofString "_wall")) (.str (Str.ofString "_wall") 193) (.ref 21), .mk (PyData.keyHash P (Str.ofString "PressError")) (.str (Str.ofString "PressError") 224) (.ref 38), .mk (PyData.keyHash P (Str.ofString "FrameError")) (.str (Str.ofString "FrameError") 240) (.ref 51), .mk (PyData.keyHash P (Str.ofString "ScanError")) (.str (Str.ofString "ScanError") 256) (.ref 63), .mk (PyData.keyHash P (Str.ofString "KINDS")) (.str (Str.ofString "KINDS") 295) (.ref 78), .mk (PyData.keyHash P (Str.ofString "MOST_SIZE")) (.str (Str.ofString "MOST_SIZE") 297) (.int 65535 296), .mk (PyData.keyHash P (Str.ofString "MOST_COMPONENTS")) (.str (Str.ofString "MOST_COMPONENTS") 299) (.int 255 298), .mk (PyData.keyHash P (Str.ofString "MOST_SAMPLING")) (.str (Str.ofString "MOST_SAMPLING") 301) (.int 4 300), .mk (PyData.keyHash P (Str.ofString "MOST_SLOT")) (.str (Str.ofString "MOST_SLOT") 303) (.int 3 302), .mk (PyData.keyHash P (Str.ofString "parts")) (.str (Str.ofString "parts") 311) (.ref 85), .mk (PyData.keyHash P (Str.ofString "Component")) (.str (Str.ofString "Component") 346) (.ref 102), .mk (PyData.keyHash P (Str.ofString "Frame")) (.str (Str.ofString "Frame") 439) (.ref 168)] 21) #[]
noncomputable def hd.x12_1 (_P : Params) : Obj := .mk .none none (.fields #[.int 1 0, .int 0 0, .ref 20, .int 5 0, .int 0 0, .ref 27, .int 10 0, .int 0 0, .ref 47, .int 12 0, .int 0 0, .ref 59, .int 20 0, .int 0 0, .ref 84, .int 22 0, .int 0 0, .ref 91, .int 29 0, .int 0 0, .ref 112]) #[]
noncomputable def hd.x79 (_P : Params) : Obj := .mk (.type "tuple") none (.seq #[]) #[]
noncomputable def hd.x80 (_P : Params) : Obj := .mk .none none (.fields #[]) #[]
noncomputable def hd.x81 (_P : Params) : Obj := .mk (.type "tuple") none (.seq #[.str (Str.ofString "many") 307, .str (Str.ofString "size") 308]) #[]
noncomputable def hd.x82 (_P : Params) : Obj := .mk (.type "tuple") none (.seq #[]) #[]
noncomputable def hd.x83 (_P : Params) : Obj := .mk .none none (.func (.mk (Str.ofString "parts") (Str.ofString "parts") hd.f2.1 (.stmts hd.f2.2.1) hd.f2.2.2 0 [] .none .none .none .none none .none .none 0)) #[]
noncomputable def hd.x84 (_P : Params) : Obj := .mk (.type "code") none (.fields #[.str (Str.ofString "parts") 304, .str (Str.ofString "parts") 305, .str (Str.ofString "/claim/cut.py") 306, .int 20 0, .int 2 0, .int 0 0, .int 0 0, .int 3 0, .ref 79, .bool true, .int 181 0, .ref 80, .none, .ref 81, .ref 82, .ref 83, .int 309 0, .int 20 0, .str (Str.ofString "/claim/cut.py") 310]) #[]
noncomputable def hd.x85 (_P : Params) : Obj := .mk (.type "function") none (.func (.mk (Str.ofString "parts") (Str.ofString "parts") hd.f2.1 (.stmts hd.f2.2.1) hd.f2.2.2 3 [] .none .none .none (.str (Str.ofString "pixelpress.frames") 257) none (.ref 84) .none 0)) #[]
noncomputable def hd.x86 (_P : Params) : Obj := .mk (.type "tuple") none (.seq #[]) #[]
noncomputable def hd.x87 (_P : Params) : Obj := .mk (.type "builtin_function_or_method") none (.fields #[.builtin "type.__prepare__", .type "type"]) #[]
noncomputable def hd.x88 (P : Params) : Obj := .mk (.type "dict") none (.dict #[.mk (PyData.keyHash P (Str.ofString "__module__")) (.str (Str.ofString "__module__") 319) (.str (Str.ofString "pixelpress.frames") 257), .mk (PyData.keyHash P (Str.ofString "__qualname__")) (.str (Str.ofString "__qualname__") 321) (.str (Str.ofString "Component") 320), .mk (PyData.keyHash P (Str.ofString "__firstlineno__")) (.str (Str.ofString "__firstlineno__") 323) (.int 22 322), .mk (PyData.keyHash P (Str.ofString "__init__")) (.str (Str.ofString "__init__") 334) (.ref 99), .mk (PyData.keyHash P (Str.ofString "__static_attributes__")) (.str (Str.ofString "__static_attributes__") 339) (.ref 100)] 5) #[]
noncomputable def hd.x89 (_P : Params) : Obj := .mk (.type "tuple") none (.seq #[]) #[]
noncomputable def hd.x90 (_P : Params) : Obj := .mk .none none (.fields #[.int 24 0, .int 4 0, .ref 98]) #[]
noncomputable def hd.x91 (_P : Params) : Obj := .mk (.type "code") none (.fields #[.str (Str.ofString "Component") 314, .str (Str.ofString "Component") 315, .str (Str.ofString "/claim/cut.py") 316, .int 22 0, .int 0 0, .int 0 0, .int 0 0, .int 0 0, .ref 89, .bool false, .int 181 0, .ref 90, .none, .none, .none, .none, .int 317 0, .int 22 0, .str (Str.ofString "/claim/cut.py") 318]) #[]
noncomputable def hd.x92 (_P : Params) : Obj := .mk (.type "frame") none .plain #[some (.ref 91), some (.ref 3), some (.ref 88), none, some (.str (Str.ofString "pixelpress.frames") 257), none, some (.ref 0)]
noncomputable def hd.x93 (_P : Params) : Obj := .mk (.type "tuple") none (.seq #[]) #[]
noncomputable def hd.x94 (_P : Params) : Obj := .mk .none none (.fields #[]) #[]
noncomputable def hd.x95 (_P : Params) : Obj := .mk (.type "tuple") none (.seq #[.str (Str.ofString "self") 327, .str (Str.ofString "ident") 328, .str (Str.ofString "across") 329, .str (Str.ofString "down") 330, .str (Str.ofString "quant") 331]) #[]
noncomputable def hd.x96 (_P : Params) : Obj := .mk (.type "tuple") none (.seq #[]) #[]
noncomputable def hd.x97 (_P : Params) : Obj := .mk .none none (.func (.mk (Str.ofString "__init__") (Str.ofString "Component.__init__") hd.f3.1 (.stmts hd.f3.2.1) hd.f3.2.2 0 [] .none .none .none .none none .none .none 0)) #[]
noncomputable def hd.x98 (_P : Params) : Obj := .mk (.type "code") none (.fields #[.str (Str.ofString "__init__") 324, .str (Str.ofString "Component.__init__") 325, .str (Str.ofString "/claim/cut.py") 326, .int 24 0, .int 5 0, .int 0 0, .int 0 0, .int 3 0, .ref 93, .bool true, .int 181 0, .ref 94, .none, .ref 95, .ref 96, .ref 97, .int 332 0, .int 24 0, .str (Str.ofString "/claim/cut.py") 333]) #[]
noncomputable def hd.x99 (_P : Params) : Obj := .mk (.type "function") none (.func (.mk (Str.ofString "__init__") (Str.ofString "Component.__init__") hd.f3.1 (.stmts hd.f3.2.1) hd.f3.2.2 3 [] .none .none .none (.str (Str.ofString "pixelpress.frames") 257) none (.ref 98) .none 0)) #[]
noncomputable def hd.x100 (_P : Params) : Obj := .mk (.type "tuple") none (.seq #[.str (Str.ofString "across") 335, .str (Str.ofString "down") 336, .str (Str.ofString "ident") 337, .str (Str.ofString "quant") 338]) #[]
noncomputable def hd.x101 (P : Params) : Obj := .mk (.type "dict") none (.dict #[.mk (PyData.keyHash P (Str.ofString "__module__")) (.str (Str.ofString "__module__") 319) (.str (Str.ofString "pixelpress.frames") 257), .mk (PyData.keyHash P (Str.ofString "__firstlineno__")) (.str (Str.ofString "__firstlineno__") 323) (.int 22 322), .mk (PyData.keyHash P (Str.ofString "__init__")) (.str (Str.ofString "__init__") 334) (.ref 99), .mk (PyData.keyHash P (Str.ofString "__static_attributes__")) (.str (Str.ofString "__static_attributes__") 339) (.ref 100), .mk (PyData.keyHash P (Str.ofString "__dict__")) (.str (Str.ofString "__dict__") 341) (.ref 103), .mk (PyData.keyHash P (Str.ofString "__weakref__")) (.str (Str.ofString "__weakref__") 343) (.ref 104), .mk (PyData.keyHash P (Str.ofString "__doc__")) (.str (Str.ofString "__doc__") 344) .none] 4) #[]
noncomputable def hd.x102 (_P : Params) : Obj := .mk (.type "type") none (.cls (.mk (Str.ofString "Component") [.type "object"] [.ref 102, .type "object"] 101 (Str.ofString "Component") true [] [] false none false)) #[none, none, some (.str (Str.ofString "Component") 312), some (.str (Str.ofString "Component") 320), some (.builtin "object.__new__"), some (.bool true)]
noncomputable def hd.x103 (_P : Params) : Obj := .mk (.type "getset_descriptor") none (.fields #[.str (Str.ofString "__dict__") 340, .ref 102, .builtin "function.__dict__", .builtin "function.__dict__#set"]) #[]
noncomputable def hd.x104 (_P : Params) : Obj := .mk (.type "getset_descriptor") none (.fields #[.str (Str.ofString "__weakref__") 342, .ref 102, .builtin "ExceptionGroup.__weakref__", .none]) #[]
noncomputable def hd.x105 (_P : Params) : Obj := .mk (.type "super") none (.fields #[.ref 102, .ref 102, .ref 102]) #[]
noncomputable def hd.x106 (_P : Params) : Obj := .mk (.type "builtin_function_or_method") none (.fields #[.builtin "object.__init_subclass__", .ref 102]) #[]
noncomputable def hd.x107 (_P : Params) : Obj := .mk (.type "tuple") none (.seq #[]) #[]
noncomputable def hd.x108 (_P : Params) : Obj := .mk (.type "builtin_function_or_method") none (.fields #[.builtin "type.__prepare__", .type "type"]) #[]
noncomputable def hd.x109 (P : Params) : Obj := .mk (.type "dict") none (.dict #[.mk (PyData.keyHash P (Str.ofString "__module__")) (.str (Str.ofString "__module__") 354) (.str (Str.ofString "pixelpress.frames") 257), .mk (PyData.keyHash P (Str.ofString "__qualname__")) (.str (Str.ofString "__qualname__") 356) (.str (Str.ofString "Frame") 355), .mk (PyData.keyHash P (Str.ofString "__firstlineno__")) (.str (Str.ofString "__firstlineno__") 358) (.int 29 357), .mk (PyData.keyHash P (Str.ofString "__init__")) (.str (Str.ofString "__init__") 371) (.ref 120), .mk (PyData.keyHash P (Str.ofString "most_across")) (.str (Str.ofString "most_across") 377) (.ref 125), .mk (PyData.keyHash P (Str.ofString "most_down")) (.str (Str.ofString "most_down") 383) (.ref 130), .mk (PyData.keyHash P (Str.ofString "mcus_across")) (.str (Str.ofString "mcus_across") 390) (.ref 137), .mk (PyData.keyHash P (Str.ofString "mcus_down")) (.str (Str.ofString "mcus_down") 397) (.ref 144), .mk (PyData.keyHash P (Str.ofString "plane_size")) (.str (Str.ofString "plane_size") 407) (.ref 151), .mk (PyData.keyHash P (Str.ofString "blocks")) (.str (Str.ofString "blocks") 417) (.ref 158), .mk (PyData.keyHash P (Str.ofString "padded")) (.str (Str.ofString "padded") 425) (.ref 165), .mk (PyData.keyHash P (Str.ofString "__static_attributes__")) (.str (Str.ofString "__static_attributes__") 432) (.ref 166)] 12) #[]
noncomputable def hd.x110 (_P : Params) : Obj := .mk (.type "tuple") none (.seq #[]) #[]
noncomputable def hd.x111 (_P : Params) : Obj := .mk .none none (.fields #[.int 31 0, .int 4 0, .ref 119, .int 39 0, .int 4 0, .ref 124, .int 42 0, .int 4 0, .ref 129, .int 45 0, .int 4 0, .ref 136, .int 48 0, .int 4 0, .ref 143, .int 51 0, .int 4 0, .ref 150, .int 56 0, .int 4 0, .ref 157, .int 60 0, .int 4 0, .ref 164]) #[]
noncomputable def hd.x112 (_P : Params) : Obj := .mk (.type "code") none (.fields #[.str (Str.ofString "Frame") 349, .str (Str.ofString "Frame") 350, .str (Str.ofString "/claim/cut.py") 351, .int 29 0, .int 0 0, .int 0 0, .int 0 0, .int 0 0, .ref 110, .bool false, .int 181 0, .ref 111, .none, .none, .none, .none, .int 352 0, .int 29 0, .str (Str.ofString "/claim/cut.py") 353]) #[]
noncomputable def hd.x113 (_P : Params) : Obj := .mk (.type "frame") none .plain #[some (.ref 112), some (.ref 3), some (.ref 109), none, some (.str (Str.ofString "pixelpress.frames") 257), none, some (.ref 0)]
noncomputable def hd.x114 (_P : Params) : Obj := .mk (.type "tuple") none (.seq #[]) #[]
noncomputable def hd.x115 (_P : Params) : Obj := .mk .none none (.fields #[]) #[]
noncomputable def hd.x116 (_P : Params) : Obj := .mk (.type "tuple") none (.seq #[.str (Str.ofString "self") 362, .str (Str.ofString "kind") 363, .str (Str.ofString "precision") 364, .str (Str.ofString "height") 365, .str (Str.ofString "width") 366, .str (Str.ofString "components") 367, .str (Str.ofString "n") 368]) #[]
noncomputable def hd.x117 (_P : Params) : Obj := .mk (.type "tuple") none (.seq #[]) #[]
noncomputable def hd.x118 (_P : Params) : Obj := .mk .none none (.func (.mk (Str.ofString "__init__") (Str.ofString "Frame.__init__") hd.f4.1 (.stmts hd.f4.2.1) hd.f4.2.2 0 [] .none .none .none .none none .none .none 0)) #[]
noncomputable def hd.x119 (_P : Params) : Obj := .mk (.type "code") none (.fields #[.str (Str.ofString "__init__") 359, .str (Str.ofString "Frame.__init__") 360, .str (Str.ofString "/claim/cut.py") 361, .int 31 0, .int 7 0, .int 0 0, .int 0 0, .int 3 0, .ref 114, .bool true, .int 181 0, .ref 115, .none, .ref 116, .ref 117, .ref 118, .int 369 0, .int 31 0, .str (Str.ofString "/claim/cut.py") 370]) #[]
noncomputable def hd.x120 (_P : Params) : Obj := .mk (.type "function") none (.func (.mk (Str.ofString "__init__") (Str.ofString "Frame.__init__") hd.f4.1 (.stmts hd.f4.2.1) hd.f4.2.2 3 [] .none .none .none (.str (Str.ofString "pixelpress.frames") 257) none (.ref 119) .none 0)) #[]
noncomputable def hd.x121 (_P : Params) : Obj := .mk (.type "tuple") none (.seq #[]) #[]
noncomputable def hd.x122 (_P : Params) : Obj := .mk .none none (.fields #[]) #[]
noncomputable def hd.x123 (_P : Params) : Obj := .mk .none none (.func (.mk (Str.ofString "most_across") (Str.ofString "Frame.most_across") hd.f5.1 (.stmts hd.f5.2.1) hd.f5.2.2 0 [] .none .none .none .none none .none .none 0)) #[]
noncomputable def hd.x124 (_P : Params) : Obj := .mk (.type "code") none (.fields #[.str (Str.ofString "most_across") 372, .str (Str.ofString "Frame.most_across") 373, .str (Str.ofString "/claim/cut.py") 374, .int 39 0, .int 1 0, .int 0 0, .int 0 0, .int 3 0, .ref 121, .bool true, .int 181 0, .ref 122, .none, .none, .none, .ref 123, .int 375 0, .int 39 0, .str (Str.ofString "/claim/cut.py") 376]) #[]
noncomputable def hd.x125 (_P : Params) : Obj := .mk (.type "function") none (.func (.mk (Str.ofString "most_across") (Str.ofString "Frame.most_across") hd.f5.1 (.stmts hd.f5.2.1) hd.f5.2.2 3 [] .none .none .none (.str (Str.ofString "pixelpress.frames") 257) none (.ref 124) .none 0)) #[]
noncomputable def hd.x126 (_P : Params) : Obj := .mk (.type "tuple") none (.seq #[]) #[]
noncomputable def hd.x127 (_P : Params) : Obj := .mk .none none (.fields #[]) #[]
noncomputable def hd.x128 (_P : Params) : Obj := .mk .none none (.func (.mk (Str.ofString "most_down") (Str.ofString "Frame.most_down") hd.f6.1 (.stmts hd.f6.2.1) hd.f6.2.2 0 [] .none .none .none .none none .none .none 0)) #[]
noncomputable def hd.x129 (_P : Params) : Obj := .mk (.type "code") none (.fields #[.str (Str.ofString "most_down") 378, .str (Str.ofString "Frame.most_down") 379, .str (Str.ofString "/claim/cut.py") 380, .int 42 0, .int 1 0, .int 0 0, .int 0 0, .int 3 0, .ref 126, .bool true, .int 181 0, .ref 127, .none, .none, .none, .ref 128, .int 381 0, .int 42 0, .str (Str.ofString "/claim/cut.py") 382]) #[]
noncomputable def hd.x130 (_P : Params) : Obj := .mk (.type "function") none (.func (.mk (Str.ofString "most_down") (Str.ofString "Frame.most_down") hd.f6.1 (.stmts hd.f6.2.1) hd.f6.2.2 3 [] .none .none .none (.str (Str.ofString "pixelpress.frames") 257) none (.ref 129) .none 0)) #[]
noncomputable def hd.x131 (_P : Params) : Obj := .mk (.type "tuple") none (.seq #[]) #[]
noncomputable def hd.x132 (_P : Params) : Obj := .mk .none none (.fields #[]) #[]
noncomputable def hd.x133 (_P : Params) : Obj := .mk (.type "tuple") none (.seq #[.str (Str.ofString "self") 387]) #[]
noncomputable def hd.x134 (_P : Params) : Obj := .mk (.type "tuple") none (.seq #[]) #[]
noncomputable def hd.x135 (_P : Params) : Obj := .mk .none none (.func (.mk (Str.ofString "mcus_across") (Str.ofString "Frame.mcus_across") hd.f7.1 (.stmts hd.f7.2.1) hd.f7.2.2 0 [] .none .none .none .none none .none .none 0)) #[]
noncomputable def hd.x136 (_P : Params) : Obj := .mk (.type "code") none (.fields #[.str (Str.ofString "mcus_across") 384, .str (Str.ofString "Frame.mcus_across") 385, .str (Str.ofString "/claim/cut.py") 386, .int 45 0, .int 1 0, .int 0 0, .int 0 0, .int 3 0, .ref 131, .bool true, .int 181 0, .ref 132, .none, .ref 133, .ref 134, .ref 135, .int 388 0, .int 45 0, .str (Str.ofString "/claim/cut.py") 389]) #[]
noncomputable def hd.x137 (_P : Params) : Obj := .mk (.type "function") none (.func (.mk (Str.ofString "mcus_across") (Str.ofString "Frame.mcus_across") hd.f7.1 (.stmts hd.f7.2.1) hd.f7.2.2 3 [] .none .none .none (.str (Str.ofString "pixelpress.frames") 257) none (.ref 136) .none 0)) #[]
noncomputable def hd.x138 (_P : Params) : Obj := .mk (.type "tuple") none (.seq #[]) #[]
noncomputable def hd.x139 (_P : Params) : Obj := .mk .none none (.fields #[]) #[]
noncomputable def hd.x140 (_P : Params) : Obj := .mk (.type "tuple") none (.seq #[.str (Str.ofString "self") 394]) #[]
noncomputable def hd.x141 (_P : Params) : Obj := .mk (.type "tuple") none (.seq #[]) #[]
noncomputable def hd.x142 (_P : Params) : Obj := .mk .none none (.func (.mk (Str.ofString "mcus_down") (Str.ofString "Frame.mcus_down") hd.f8.1 (.stmts hd.f8.2.1) hd.f8.2.2 0 [] .none .none .none .none none .none .none 0)) #[]
noncomputable def hd.x143 (_P : Params) : Obj := .mk (.type "code") none (.fields #[.str (Str.ofString "mcus_down") 391, .str (Str.ofString "Frame.mcus_down") 392, .str (Str.ofString "/claim/cut.py") 393, .int 48 0, .int 1 0, .int 0 0, .int 0 0, .int 3 0, .ref 138, .bool true, .int 181 0, .ref 139, .none, .ref 140, .ref 141, .ref 142, .int 395 0, .int 48 0, .str (Str.ofString "/claim/cut.py") 396]) #[]
noncomputable def hd.x144 (_P : Params) : Obj := .mk (.type "function") none (.func (.mk (Str.ofString "mcus_down") (Str.ofString "Frame.mcus_down") hd.f8.1 (.stmts hd.f8.2.1) hd.f8.2.2 3 [] .none .none .none (.str (Str.ofString "pixelpress.frames") 257) none (.ref 143) .none 0)) #[]
noncomputable def hd.x145 (_P : Params) : Obj := .mk (.type "tuple") none (.seq #[]) #[]
noncomputable def hd.x146 (_P : Params) : Obj := .mk .none none (.fields #[]) #[]
noncomputable def hd.x147 (_P : Params) : Obj := .mk (.type "tuple") none (.seq #[.str (Str.ofString "self") 401, .str (Str.ofString "place") 402, .str (Str.ofString "component") 403, .str (Str.ofString "width") 404]) #[]
noncomputable def hd.x148 (_P : Params) : Obj := .mk (.type "tuple") none (.seq #[]) #[]
noncomputable def hd.x149 (_P : Params) : Obj := .mk .none none (.func (.mk (Str.ofString "plane_size") (Str.ofString "Frame.plane_size") hd.f9.1 (.stmts hd.f9.2.1) hd.f9.2.2 0 [] .none .none .none .none none .none .none 0)) #[]
noncomputable def hd.x150 (_P : Params) : Obj := .mk (.type "code") none (.fields #[.str (Str.ofString "plane_size") 398, .str (Str.ofString "Frame.plane_size") 399, .str (Str.ofString "/claim/cut.py") 400, .int 51 0, .int 2 0, .int 0 0, .int 0 0, .int 3 0, .ref 145, .bool true, .int 181 0, .ref 146, .none, .ref 147, .ref 148, .ref 149, .int 405 0, .int 51 0, .str (Str.ofString "/claim/cut.py") 406]) #[]
noncomputable def hd.x151 (_P : Params) : Obj := .mk (.type "function") none (.func (.mk (Str.ofString "plane_size") (Str.ofString "Frame.plane_size") hd.f9.1 (.stmts hd.f9.2.1) hd.f9.2.2 3 [] .none .none .none (.str (Str.ofString "pixelpress.frames") 257) none (.ref 150) .none 0)) #[]
noncomputable def hd.x152 (_P : Params) : Obj := .mk (.type "tuple") none (.seq #[]) #[]
noncomputable def hd.x153 (_P : Params) : Obj := .mk .none none (.fields #[]) #[]
noncomputable def hd.x154 (_P : Params) : Obj := .mk (.type "tuple") none (.seq #[.str (Str.ofString "self") 411, .str (Str.ofString "place") 412, .str (Str.ofString "width") 413, .str (Str.ofString "height") 414]) #[]
noncomputable def hd.x155 (_P : Params) : Obj := .mk (.type "tuple") none (.seq #[]) #[]
noncomputable def hd.x156 (_P : Params) : Obj := .mk .none none (.func (.mk (Str.ofString "blocks") (Str.ofString "Frame.blocks") hd.f10.1 (.stmts hd.f10.2.1) hd.f10.2.2 0 [] .none .none .none .none none .none .none 0)) #[]
noncomputable def hd.x157 (_P : Params) : Obj := .mk (.type "code") none (.fields #[.str (Str.ofString "blocks") 408, .str (Str.ofString "Frame.blocks") 409, .str (Str.ofString "/claim/cut.py") 410, .int 56 0, .int 2 0, .int 0 0, .int 0 0, .int 3 0, .ref 152, .bool true, .int 181 0, .ref 153, .none, .ref 154, .ref 155, .ref 156, .int 415 0, .int 56 0, .str (Str.ofString "/claim/cut.py") 416]) #[]
noncomputable def hd.x158 (_P : Params) : Obj := .mk (.type "function") none (.func (.mk (Str.ofString "blocks") (Str.ofString "Frame.blocks") hd.f10.1 (.stmts hd.f10.2.1) hd.f10.2.2 3 [] .none .none .none (.str (Str.ofString "pixelpress.frames") 257) none (.ref 157) .none 0)) #[]
noncomputable def hd.x159 (_P : Params) : Obj := .mk (.type "tuple") none (.seq #[]) #[]
noncomputable def hd.x160 (_P : Params) : Obj := .mk .none none (.fields #[]) #[]
noncomputable def hd.x161 (_P : Params) : Obj := .mk (.type "tuple") none (.seq #[.str (Str.ofString "self") 421, .str (Str.ofString "place") 422]) #[]
noncomputable def hd.x162 (_P : Params) : Obj := .mk (.type "tuple") none (.seq #[]) #[]
noncomputable def hd.x163 (_P : Params) : Obj := .mk .none none (.func (.mk (Str.ofString "padded") (Str.ofString "Frame.padded") hd.f11.1 (.stmts hd.f11.2.1) hd.f11.2.2 0 [] .none .none .none .none none .none .none 0)) #[]
noncomputable def hd.x164 (_P : Params) : Obj := .mk (.type "code") none (.fields #[.str (Str.ofString "padded") 418, .str (Str.ofString "Frame.padded") 419, .str (Str.ofString "/claim/cut.py") 420, .int 60 0, .int 2 0, .int 0 0, .int 0 0, .int 3 0, .ref 159, .bool true, .int 181 0, .ref 160, .none, .ref 161, .ref 162, .ref 163, .int 423 0, .int 60 0, .str (Str.ofString "/claim/cut.py") 424]) #[]
noncomputable def hd.x165 (_P : Params) : Obj := .mk (.type "function") none (.func (.mk (Str.ofString "padded") (Str.ofString "Frame.padded") hd.f11.1 (.stmts hd.f11.2.1) hd.f11.2.2 3 [] .none .none .none (.str (Str.ofString "pixelpress.frames") 257) none (.ref 164) .none 0)) #[]
noncomputable def hd.x166 (_P : Params) : Obj := .mk (.type "tuple") none (.seq #[.str (Str.ofString "components") 426, .str (Str.ofString "height") 427, .str (Str.ofString "kind") 428, .str (Str.ofString "n") 429, .str (Str.ofString "precision") 430, .str (Str.ofString "width") 431]) #[]
noncomputable def hd.x167 (P : Params) : Obj := .mk (.type "dict") none (.dict #[.mk (PyData.keyHash P (Str.ofString "__module__")) (.str (Str.ofString "__module__") 354) (.str (Str.ofString "pixelpress.frames") 257), .mk (PyData.keyHash P (Str.ofString "__firstlineno__")) (.str (Str.ofString "__firstlineno__") 358) (.int 29 357), .mk (PyData.keyHash P (Str.ofString "__init__")) (.str (Str.ofString "__init__") 371) (.ref 120), .mk (PyData.keyHash P (Str.ofString "most_across")) (.str (Str.ofString "most_across") 377) (.ref 125), .mk (PyData.keyHash P (Str.ofString "most_down")) (.str (Str.ofString "most_down") 383) (.ref 130), .mk (PyData.keyHash P (Str.ofString "mcus_across")) (.str (Str.ofString "mcus_across") 390) (.ref 137), .mk (PyData.keyHash P (Str.ofString "mcus_down")) (.str (Str.ofString "mcus_down") 397) (.ref 144), .mk (PyData.keyHash P (Str.ofString "plane_size")) (.str (Str.ofString "plane_size") 407) (.ref 151), .mk (PyData.keyHash P (Str.ofString "blocks")) (.str (Str.ofString "blocks") 417) (.ref 158), .mk (PyData.keyHash P (Str.ofString "padded")) (.str (Str.ofString "padded") 425) (.ref 165), .mk (PyData.keyHash P (Str.ofString "__static_attributes__")) (.str (Str.ofString "__static_attributes__") 432) (.ref 166), .mk (PyData.keyHash P (Str.ofString "__dict__")) (.str (Str.ofString "__dict__") 434) (.ref 169), .mk (PyData.keyHash P (Str.ofString "__weakref__")) (.str (Str.ofString "__weakref__") 436) (.ref 170), .mk (PyData.keyHash P (Str.ofString "__doc__")) (.str (Str.ofString "__doc__") 437) .none] 4) #[]
noncomputable def hd.x168 (_P : Params) : Obj := .mk (.type "type") none (.cls (.mk (Str.ofString "Frame") [.type "object"] [.ref 168, .type "object"] 167 (Str.ofString "Frame") true [] [] false none false)) #[none, none, some (.str (Str.ofString "Frame") 347), some (.str (Str.ofString "Frame") 355), some (.builtin "object.__new__"), some (.bool true)]
noncomputable def hd.x169 (_P : Params) : Obj := .mk (.type "getset_descriptor") none (.fields #[.str (Str.ofString "__dict__") 433, .ref 168, .builtin "function.__dict__", .builtin "function.__dict__#set"]) #[]
noncomputable def hd.x170 (_P : Params) : Obj := .mk (.type "getset_descriptor") none (.fields #[.str (Str.ofString "__weakref__") 435, .ref 168, .builtin "ExceptionGroup.__weakref__", .none]) #[]
noncomputable def hd.x171 (_P : Params) : Obj := .mk (.type "super") none (.fields #[.ref 168, .ref 168, .ref 168]) #[]
noncomputable def hd.x172 (_P : Params) : Obj := .mk (.type "builtin_function_or_method") none (.fields #[.builtin "object.__init_subclass__", .ref 168]) #[]
noncomputable def hd.x3_2 (P : Params) : Obj := .mk (.type "dict") none (.dict #[.mk (PyData.keyHash P (Str.ofString "__name__")) (.str (Str.ofString "__name__") 165) (.str (Str.ofString "pixelpress.head_segments") 481), .mk (PyData.keyHash P (Str.ofString "__doc__")) (.str (Str.ofString "__doc__") 166) .none, .mk (PyData.keyHash P (Str.ofString "__package__")) (.str (Str.ofString "__package__") 167) .none, .mk (PyData.keyHash P (Str.ofString "__loader__")) (.str (Str.ofString "__loader__") 168) (.builtin "__main__.__loader__#opaque"), .mk (PyData.keyHash P (Str.ofString "__spec__")) (.str (Str.ofString "__spec__") 169) .none, .mk (PyData.keyHash P (Str.ofString "__annotations__")) (.str (Str.ofString "__annotations__") 170) (.ref 6), .mk (PyData.keyHash P (Str.ofString "__builtins__")) (.str (Str.ofString "__builtins__") 171) (.ref 4), .mk (PyData.keyHash P (Str.ofString "__file__")) (.str (Str.ofString "__file__") 173) (.str (Str.ofString "/claim/cut.py") 172), .mk (PyData.keyHash P (Str.ofString "__cached__")) (.str (Str.ofString "__cached__") 174) .none, .mk (PyData.keyHash P (Str.ofString "_wall")) (.str (Str.ofString "_wall") 193) (.ref 21), .mk (PyData.keyHash P (Str.ofString "PressError")) (.str (Str.ofString "PressError") 224) (.ref 38), .mk (PyData.keyHash P (Str.ofString "FrameError")) (.str (Str.ofString "FrameError") 240) (.ref 51), .mk (PyData.keyHash P (Str.ofString "ScanError")) (.str (Str.ofString "ScanError") 256) (.ref 63), .mk (PyData.keyHash P (Str.ofString "KINDS")) (.str (Str.ofString "KINDS") 295) (.ref 78), .mk (PyData.keyHash P (Str.ofString "MOST_SIZE")) (.str (Str.ofString "MOST_SIZE") 297) (.int 65535 296), .mk (PyData.keyHash P (Str.ofString "MOST_COMPONENTS")) (.str (Str.ofString "MOST_COMPONENTS") 299) (.int 255 298), .mk (PyData.keyHash P (Str.ofString "MOST_SAMPLING")) (.str (Str.ofString "MOST_SAMPLING") 301) (.int 4 300), .mk (PyData.keyHash P (Str.ofString "MOST_SLOT")) (.str (Str.ofString "MOST_SLOT") 303) (.int 3 302), .mk (PyData.keyHash P (Str.ofString "parts")) (.str (Str.ofString "parts") 311) (.ref 85), .mk (PyData.keyHash P (Str.ofString "Component")) (.str (Str.ofString "Component") 346) (.ref 102), .mk (PyData.keyHash P (Str.ofString "Frame")) (.str (Str.ofString "Frame") 439) (.ref 168), .mk (PyData.keyHash P (Str.ofString "kind_row")) (.str (Str.ofString "kind_row") 447) (.ref 179), .mk (PyData.keyHash P (Str.ofString "kind_of_code")) (.str (Str.ofString "kind_of_code") 455) (.ref 186), .mk (PyData.keyHash P (Str.ofString "check_component")) (.str (Str.ofString "check_component") 462) (.ref 193), .mk (PyData.keyHash P (Str.ofString "check_frame")) (.str (Str.ofString "check_frame") 471) (.ref 200), .mk (PyData.keyHash P (Str.ofString "place_of")) (.str (Str.ofString "place_of") 480) (.ref 207), .mk (PyData.keyHash P (Str.ofString "ComponentHead")) (.str (Str.ofString "ComponentHead") 517) (.ref 224), .mk (PyData.keyHash P (Str.ofString "FrameHead")) (.str (Str.ofString "FrameHead") 554) (.ref 245)] 28) #[]
noncomputable def hd.x12_2 (_P : Params) : Obj := .mk .none none (.fields #[.int 1 0, .int 0 0, .ref 20, .int 5 0, .int 0 0, .ref 27, .int 10 0, .int 0 0, .ref 47, .int 12 0, .int 0 0, .ref 59, .int 20 0, .int 0 0, .ref 84, .int 22 0, .int 0 0, .ref 91, .int 29 0, .int 0 0, .ref 112, .int 62 0, .int 0 0, .ref 178, .int 67 0, .int 0 0, .ref 185, .int 72 0, .int 0 0, .ref 192, .int 79 0, .int 0 0, .ref 199, .int 92 0, .int 0 0, .ref 206, .int 98 0, .int 0 0, .ref 213, .int 105 0, .int 0 0, .ref 234]) #[]
noncomputable def hd.x173 (_P : Params) : Obj := .mk (.type "tuple") none (.seq #[]) #[]
noncomputable def hd.x174 (_P : Params) : Obj := .mk .none none (.fields #[]) #[]
noncomputable def hd.x175 (_P : Params) : Obj := .mk (.type "tuple") none (.seq #[.str (Str.ofString "kind") 443, .str (Str.ofString "row") 444]) #[]
noncomputable def hd.x176 (_P : Params) : Obj := .mk (.type "tuple") none (.seq #[]) #[]
noncomputable def hd.x177 (_P : Params) : Obj := .mk .none none (.func (.mk (Str.ofString "kind_row") (Str.ofString "kind_row") hd.f12.1 (.stmts hd.f12.2.1) hd.f12.2.2 0 [] .none .none .none .none none .none .none 0)) #[]
noncomputable def hd.x178 (_P : Params) : Obj := .mk (.type "code") none (.fields #[.str (Str.ofString "kind_row") 440, .str (Str.ofString "kind_row") 441, .str (Str.ofString "/claim/cut.py") 442, .int 62 0, .int 1 0, .int 0 0, .int 0 0, .int 3 0, .ref 173, .bool true, .int 181 0, .ref 174, .none, .ref 175, .ref 176, .ref 177, .int 445 0, .int 62 0, .str (Str.ofString "/claim/cut.py") 446]) #[]
noncomputable def hd.x179 (_P : Params) : Obj := .mk (.type "function") none (.func (.mk (Str.ofString "kind_row") (Str.ofString "kind_row") hd.f12.1 (.stmts hd.f12.2.1) hd.f12.2.2 3 [] .none .none .none (.str (Str.ofString "pixelpress.frames") 257) none (.ref 178) .none 0)) #[]
noncomputable def hd.x180 (_P : Params) : Obj := .mk (.type "tuple") none (.seq #[]) #[]
noncomputable def hd.x181 (_P : Params) : Obj := .mk .none none (.fields #[]) #[]
noncomputable def hd.x182 (_P : Params) : Obj := .mk (.type "tuple") none (.seq #[.str (Str.ofString "code") 451, .str (Str.ofString "row") 452]) #[]
noncomputable def hd.x183 (_P : Params) : Obj := .mk (.type "tuple") none (.seq #[]) #[]
noncomputable def hd.x184 (_P : Params) : Obj := .mk .none none (.func (.mk (Str.ofString "kind_of_code") (Str.ofString "kind_of_code") hd.f13.1 (.stmts hd.f13.2.1) hd.f13.2.2 0 [] .none .none .none .none none .none .none 0)) #[]
noncomputable def hd.x185 (_P : Params) : Obj := .mk (.type "code") none (.fields #[.str (Str.ofString "kind_of_code") 448, .str (Str.ofString "kind_of_code") 449, .str (Str.ofString "/claim/cut.py") 450, .int 67 0, .int 1 0, .int 0 0, .int 0 0, .int 3 0, .ref 180, .bool true, .int 181 0, .ref 181, .none, .ref 182, .ref 183, .ref 184, .int 453 0, .int 67 0, .str (Str.ofString "/claim/cut.py") 454]) #[]
noncomputable def hd.x186 (_P : Params) : Obj := .mk (.type "function") none (.func (.mk (Str.ofString "kind_of_code") (Str.ofString "kind_of_code") hd.f13.1 (.stmts hd.f13.2.1) hd.f13.2.2 3 [] .none .none .none (.str (Str.ofString "pixelpress.frames") 257) none (.ref 185) .none 0)) #[]
noncomputable def hd.x187 (_P : Params) : Obj := .mk (.type "tuple") none (.seq #[]) #[]
noncomputable def hd.x188 (_P : Params) : Obj := .mk .none none (.fields #[]) #[]
noncomputable def hd.x189 (_P : Params) : Obj := .mk (.type "tuple") none (.seq #[.str (Str.ofString "component") 459]) #[]
noncomputable def hd.x190 (_P : Params) : Obj := .mk (.type "tuple") none (.seq #[]) #[]
noncomputable def hd.x191 (_P : Params) : Obj := .mk .none none (.func (.mk (Str.ofString "check_component") (Str.ofString "check_component") hd.f14.1 (.stmts hd.f14.2.1) hd.f14.2.2 0 [] .none .none .none .none none .none .none 0)) #[]
noncomputable def hd.x192 (_P : Params) : Obj := .mk (.type "code") none (.fields #[.str (Str.ofString "check_component") 456, .str (Str.ofString "check_component") 457, .str (Str.ofString "/claim/cut.py") 458, .int 72 0, .int 1 0, .int 0 0, .int 0 0, .int 3 0, .ref 187, .bool true, .int 181 0, .ref 188, .none, .ref 189, .ref 190, .ref 191, .int 460 0, .int 72 0, .str (Str.ofString "/claim/cut.py") 461]) #[]
noncomputable def hd.x193 (_P : Params) : Obj := .mk (.type "function") none (.func (.mk (Str.ofString "check_component") (Str.ofString "check_component") hd.f14.1 (.stmts hd.f14.2.1) hd.f14.2.2 3 [] .none .none .none (.str (Str.ofString "pixelpress.frames") 257) none (.ref 192) .none 0)) #[]
noncomputable def hd.x194 (_P : Params) : Obj := .mk (.type "tuple") none (.seq #[]) #[]
noncomputable def hd.x195 (_P : Params) : Obj := .mk .none none (.fields #[]) #[]
noncomputable def hd.x196 (_P : Params) : Obj := .mk (.type "tuple") none (.seq #[.str (Str.ofString "frame") 466, .str (Str.ofString "known") 467, .str (Str.ofString "component") 468]) #[]
noncomputable def hd.x197 (_P : Params) : Obj := .mk (.type "tuple") none (.seq #[]) #[]
noncomputable def hd.x198 (_P : Params) : Obj := .mk .none none (.func (.mk (Str.ofString "check_frame") (Str.ofString "check_frame") hd.f15.1 (.stmts hd.f15.2.1) hd.f15.2.2 0 [] .none .none .none .none none .none .none 0)) #[]
noncomputable def hd.x199 (_P : Params) : Obj := .mk (.type "code") none (.fields #[.str (Str.ofString "check_frame") 463, .str (Str.ofString "check_frame") 464, .str (Str.ofString "/claim/cut.py") 465, .int 79 0, .int 1 0, .int 0 0, .int 0 0, .int 3 0, .ref 194, .bool true, .int 181 0, .ref 195, .none, .ref 196, .ref 197, .ref 198, .int 469 0, .int 79 0, .str (Str.ofString "/claim/cut.py") 470]) #[]
noncomputable def hd.x200 (_P : Params) : Obj := .mk (.type "function") none (.func (.mk (Str.ofString "check_frame") (Str.ofString "check_frame") hd.f15.1 (.stmts hd.f15.2.1) hd.f15.2.2 3 [] .none .none .none (.str (Str.ofString "pixelpress.frames") 257) none (.ref 199) .none 0)) #[]
noncomputable def hd.x201 (_P : Params) : Obj := .mk (.type "tuple") none (.seq #[]) #[]
noncomputable def hd.x202 (_P : Params) : Obj := .mk .none none (.fields #[]) #[]
noncomputable def hd.x203 (_P : Params) : Obj := .mk (.type "tuple") none (.seq #[.str (Str.ofString "frame") 475, .str (Str.ofString "ident") 476, .str (Str.ofString "place") 477]) #[]
noncomputable def hd.x204 (_P : Params) : Obj := .mk (.type "tuple") none (.seq #[]) #[]
noncomputable def hd.x205 (_P : Params) : Obj := .mk .none none (.func (.mk (Str.ofString "place_of") (Str.ofString "place_of") hd.f16.1 (.stmts hd.f16.2.1) hd.f16.2.2 0 [] .none .none .none .none none .none .none 0)) #[]
noncomputable def hd.x206 (_P : Params) : Obj := .mk (.type "code") none (.fields #[.str (Str.ofString "place_of") 472, .str (Str.ofString "place_of") 473, .str (Str.ofString "/claim/cut.py") 474, .int 92 0, .int 2 0, .int 0 0, .int 0 0, .int 3 0, .ref 201, .bool true, .int 181 0, .ref 202, .none, .ref 203, .ref 204, .ref 205, .int 478 0, .int 92 0, .str (Str.ofString "/claim/cut.py") 479]) #[]
noncomputable def hd.x207 (_P : Params) : Obj := .mk (.type "function") none (.func (.mk (Str.ofString "place_of") (Str.ofString "place_of") hd.f16.1 (.stmts hd.f16.2.1) hd.f16.2.2 3 [] .none .none .none (.str (Str.ofString "pixelpress.frames") 257) none (.ref 206) .none 0)) #[]
noncomputable def hd.x208 (_P : Params) : Obj := .mk (.type "tuple") none (.seq #[]) #[]
noncomputable def hd.x209 (_P : Params) : Obj := .mk (.type "builtin_function_or_method") none (.fields #[.builtin "type.__prepare__", .type "type"]) #[]
noncomputable def hd.x210 (P : Params) : Obj := .mk (.type "dict") none (.dict #[.mk (PyData.keyHash P (Str.ofString "__module__")) (.str (Str.ofString "__module__") 490) (.str (Str.ofString "pixelpress.head_segments") 481), .mk (PyData.keyHash P (Str.ofString "__qualname__")) (.str (Str.ofString "__qualname__") 492) (.str (Str.ofString "ComponentHead") 491), .mk (PyData.keyHash P (Str.ofString "__firstlineno__")) (.str (Str.ofString "__firstlineno__") 494) (.int 98 493), .mk (PyData.keyHash P (Str.ofString "__init__")) (.str (Str.ofString "__init__") 505) (.ref 221), .mk (PyData.keyHash P (Str.ofString "__static_attributes__")) (.str (Str.ofString "__static_attributes__") 510) (.ref 222)] 5) #[]
noncomputable def hd.x211 (_P : Params) : Obj := .mk (.type "tuple") none (.seq #[]) #[]
noncomputable def hd.x212 (_P : Params) : Obj := .mk .none none (.fields #[.int 100 0, .int 4 0, .ref 220]) #[]
noncomputable def hd.x213 (_P : Params) : Obj := .mk (.type "code") none (.fields #[.str (Str.ofString "ComponentHead") 485, .str (Str.ofString "ComponentHead") 486, .str (Str.ofString "/claim/cut.py") 487, .int 98 0, .int 0 0, .int 0 0, .int 0 0, .int 0 0, .ref 211, .bool false, .int 181 0, .ref 212, .none, .none, .none, .none, .int 488 0, .int 98 0, .str (Str.ofString "/claim/cut.py") 489]) #[]
noncomputable def hd.x214 (_P : Params) : Obj := .mk (.type "frame") none .plain #[some (.ref 213), some (.ref 3), some (.ref 210), none, some (.str (Str.ofString "pixelpress.head_segments") 481), none, some (.ref 0)]
noncomputable def hd.x215 (_P : Params) : Obj := .mk (.type "tuple") none (.seq #[]) #[]
noncomputable def hd.x216 (_P : Params) : Obj := .mk .none none (.fields #[]) #[]
noncomputable def hd.x217 (_P : Params) : Obj := .mk (.type "tuple") none (.seq #[.str (Str.ofString "self") 498, .str (Str.ofString "ident") 499, .str (Str.ofString "across") 500, .str (Str.ofString "down") 501, .str (Str.ofString "quant") 502]) #[]
noncomputable def hd.x218 (_P : Params) : Obj := .mk (.type "tuple") none (.seq #[]) #[]
noncomputable def hd.x219 (_P : Params) : Obj := .mk .none none (.func (.mk (Str.ofString "__init__") (Str.ofString "ComponentHead.__init__") hd.f17.1 (.stmts hd.f17.2.1) hd.f17.2.2 0 [] .none .none .none .none none .none .none 0)) #[]
noncomputable def hd.x220 (_P : Params) : Obj := .mk (.type "code") none (.fields #[.str (Str.ofString "__init__") 495, .str (Str.ofString "ComponentHead.__init__") 496, .str (Str.ofString "/claim/cut.py") 497, .int 100 0, .int 5 0, .int 0 0, .int 0 0, .int 3 0, .ref 215, .bool true, .int 181 0, .ref 216, .none, .ref 217, .ref 218, .ref 219, .int 503 0, .int 100 0, .str (Str.ofString "/claim/cut.py") 504]) #[]
noncomputable def hd.x221 (_P : Params) : Obj := .mk (.type "function") none (.func (.mk (Str.ofString "__init__") (Str.ofString "ComponentHead.__init__") hd.f17.1 (.stmts hd.f17.2.1) hd.f17.2.2 3 [] .none .none .none (.str (Str.ofString "pixelpress.head_segments") 481) none (.ref 220) .none 0)) #[]
noncomputable def hd.x222 (_P : Params) : Obj := .mk (.type "tuple") none (.seq #[.str (Str.ofString "across") 506, .str (Str.ofString "down") 507, .str (Str.ofString "ident") 508, .str (Str.ofString "quant") 509]) #[]
noncomputable def hd.x223 (P : Params) : Obj := .mk (.type "dict") none (.dict #[.mk (PyData.keyHash P (Str.ofString "__module__")) (.str (Str.ofString "__module__") 490) (.str (Str.ofString "pixelpress.head_segments") 481), .mk (PyData.keyHash P (Str.ofString "__firstlineno__")) (.str (Str.ofString "__firstlineno__") 494) (.int 98 493), .mk (PyData.keyHash P (Str.ofString "__init__")) (.str (Str.ofString "__init__") 505) (.ref 221), .mk (PyData.keyHash P (Str.ofString "__static_attributes__")) (.str (Str.ofString "__static_attributes__") 510) (.ref 222), .mk (PyData.keyHash P (Str.ofString "__dict__")) (.str (Str.ofString "__dict__") 512) (.ref 225), .mk (PyData.keyHash P (Str.ofString "__weakref__")) (.str (Str.ofString "__weakref__") 514) (.ref 226), .mk (PyData.keyHash P (Str.ofString "__doc__")) (.str (Str.ofString "__doc__") 515) .none] 4) #[]
noncomputable def hd.x224 (_P : Params) : Obj := .mk (.type "type") none (.cls (.mk (Str.ofString "ComponentHead") [.type "object"] [.ref 224, .type "object"] 223 (Str.ofString "ComponentHead") true [] [] false none false)) #[none, none, some (.str (Str.ofString "ComponentHead") 483), some (.str (Str.ofString "ComponentHead") 491), some (.builtin "object.__new__"), some (.bool true)]
noncomputable def hd.x225 (_P : Params) : Obj := .mk (.type "getset_descriptor") none (.fields #[.str (Str.ofString "__dict__") 511, .ref 224, .builtin "function.__dict__", .builtin "function.__dict__#set"]) #[]
noncomputable def hd.x226 (_P : Params) : Obj := .mk (.type "getset_descriptor") none (.fields #[.str (Str.ofString "__weakref__") 513, .ref 224, .builtin "ExceptionGroup.__weakref__", .none]) #[]
noncomputable def hd.x227 (_P : Params) : Obj := .mk (.type "super") none (.fields #[.ref 224, .ref 224, .ref 224]) #[]
noncomputable def hd.x228 (_P : Params) : Obj := .mk (.type "builtin_function_or_method") none (.fields #[.builtin "object.__init_subclass__", .ref 224]) #[]
noncomputable def hd.x229 (_P : Params) : Obj := .mk (.type "tuple") none (.seq #[]) #[]
noncomputable def hd.x230 (_P : Params) : Obj := .mk (.type "builtin_function_or_method") none (.fields #[.builtin "type.__prepare__", .type "type"]) #[]
noncomputable def hd.x231 (P : Params) : Obj := .mk (.type "dict") none (.dict #[.mk (PyData.keyHash P (Str.ofString "__module__")) (.str (Str.ofString "__module__") 525) (.str (Str.ofString "pixelpress.head_segments") 481), .mk (PyData.keyHash P (Str.ofString "__qualname__")) (.str (Str.ofString "__qualname__") 527) (.str (Str.ofString "FrameHead") 526), .mk (PyData.keyHash P (Str.ofString "__firstlineno__")) (.str (Str.ofString "__firstlineno__") 529) (.int 105 528), .mk (PyData.keyHash P (Str.ofString "__init__")) (.str (Str.ofString "__init__") 541) (.ref 242), .mk (PyData.keyHash P (Str.ofString "__static_attributes__")) (.str (Str.ofString "__static_attributes__") 547) (.ref 243)] 5) #[]
noncomputable def hd.x232 (_P : Params) : Obj := .mk (.type "tuple") none (.seq #[]) #[]
noncomputable def hd.x233 (_P : Params) : Obj := .mk .none none (.fields #[.int 107 0, .int 4 0, .ref 241]) #[]
noncomputable def hd.x234 (_P : Params) : Obj := .mk (.type "code") none (.fields #[.str (Str.ofString "FrameHead") 520, .str (Str.ofString "FrameHead") 521, .str (Str.ofString "/claim/cut.py") 522, .int 105 0, .int 0 0, .int 0 0, .int 0 0, .int 0 0, .ref 232, .bool false, .int 181 0, .ref 233, .none, .none, .none, .none, .int 523 0, .int 105 0, .str (Str.ofString "/claim/cut.py") 524]) #[]
noncomputable def hd.x235 (_P : Params) : Obj := .mk (.type "frame") none .plain #[some (.ref 234), some (.ref 3), some (.ref 231), none, some (.str (Str.ofString "pixelpress.head_segments") 481), none, some (.ref 0)]
noncomputable def hd.x236 (_P : Params) : Obj := .mk (.type "tuple") none (.seq #[]) #[]
noncomputable def hd.x237 (_P : Params) : Obj := .mk .none none (.fields #[]) #[]
noncomputable def hd.x238 (_P : Params) : Obj := .mk (.type "tuple") none (.seq #[.str (Str.ofString "self") 533, .str (Str.ofString "code") 534, .str (Str.ofString "precision") 535, .str (Str.ofString "height") 536, .str (Str.ofString "width") 537, .str (Str.ofString "components") 538]) #[]
noncomputable def hd.x239 (_P : Params) : Obj := .mk (.type "tuple") none (.seq #[]) #[]
noncomputable def hd.x240 (_P : Params) : Obj := .mk .none none (.func (.mk (Str.ofString "__init__") (Str.ofString "FrameHead.__init__") hd.f18.1 (.stmts hd.f18.2.1) hd.f18.2.2 0 [] .none .none .none .none none .none .none 0)) #[]
noncomputable def hd.x241 (_P : Params) : Obj := .mk (.type "code") none (.fields #[.str (Str.ofString "__init__") 530, .str (Str.ofString "FrameHead.__init__") 531, .str (Str.ofString "/claim/cut.py") 532, .int 107 0, .int 6 0, .int 0 0, .int 0 0, .int 3 0, .ref 236, .bool true, .int 181 0, .ref 237, .none, .ref 238, .ref 239, .ref 240, .int 539 0, .int 107 0, .str (Str.ofString "/claim/cut.py") 540]) #[]
noncomputable def hd.x242 (_P : Params) : Obj := .mk (.type "function") none (.func (.mk (Str.ofString "__init__") (Str.ofString "FrameHead.__init__") hd.f18.1 (.stmts hd.f18.2.1) hd.f18.2.2 3 [] .none .none .none (.str (Str.ofString "pixelpress.head_segments") 481) none (.ref 241) .none 0)) #[]
noncomputable def hd.x243 (_P : Params) : Obj := .mk (.type "tuple") none (.seq #[.str (Str.ofString "code") 542, .str (Str.ofString "components") 543, .str (Str.ofString "height") 544, .str (Str.ofString "precision") 545, .str (Str.ofString "width") 546]) #[]
noncomputable def hd.x244 (P : Params) : Obj := .mk (.type "dict") none (.dict #[.mk (PyData.keyHash P (Str.ofString "__module__")) (.str (Str.ofString "__module__") 525) (.str (Str.ofString "pixelpress.head_segments") 481), .mk (PyData.keyHash P (Str.ofString "__firstlineno__")) (.str (Str.ofString "__firstlineno__") 529) (.int 105 528), .mk (PyData.keyHash P (Str.ofString "__init__")) (.str (Str.ofString "__init__") 541) (.ref 242), .mk (PyData.keyHash P (Str.ofString "__static_attributes__")) (.str (Str.ofString "__static_attributes__") 547) (.ref 243), .mk (PyData.keyHash P (Str.ofString "__dict__")) (.str (Str.ofString "__dict__") 549) (.ref 246), .mk (PyData.keyHash P (Str.ofString "__weakref__")) (.str (Str.ofString "__weakref__") 551) (.ref 247), .mk (PyData.keyHash P (Str.ofString "__doc__")) (.str (Str.ofString "__doc__") 552) .none] 4) #[]
noncomputable def hd.x245 (_P : Params) : Obj := .mk (.type "type") none (.cls (.mk (Str.ofString "FrameHead") [.type "object"] [.ref 245, .type "object"] 244 (Str.ofString "FrameHead") true [] [] false none false)) #[none, none, some (.str (Str.ofString "FrameHead") 518), some (.str (Str.ofString "FrameHead") 526), some (.builtin "object.__new__"), some (.bool true)]
noncomputable def hd.x246 (_P : Params) : Obj := .mk (.type "getset_descriptor") none (.fields #[.str (Str.ofString "__dict__") 548, .ref 245, .builtin "function.__dict__", .builtin "function.__dict__#set"]) #[]
noncomputable def hd.x247 (_P : Params) : Obj := .mk (.type "getset_descriptor") none (.fields #[.str (Str.ofString "__weakref__") 550, .ref 245, .builtin "ExceptionGroup.__weakref__", .none]) #[]
noncomputable def hd.x248 (_P : Params) : Obj := .mk (.type "super") none (.fields #[.ref 245, .ref 245, .ref 245]) #[]
noncomputable def hd.x249 (_P : Params) : Obj := .mk (.type "builtin_function_or_method") none (.fields #[.builtin "object.__init_subclass__", .ref 245]) #[]
noncomputable def hd.x3_3 (P : Params) : Obj := .mk (.type "dict") none (.dict #[.mk (PyData.keyHash P (Str.ofString "__name__")) (.str (Str.ofString "__name__") 165) (.str (Str.ofString "pixelpress.frame_heads") 653), .mk (PyData.keyHash P (Str.ofString "__doc__")) (.str (Str.ofString "__doc__") 166) .none, .mk (PyData.keyHash P (Str.ofString "__package__")) (.str (Str.ofString "__package__") 167) .none, .mk (PyData.keyHash P (Str.ofString "__loader__")) (.str (Str.ofString "__loader__") 168) (.builtin "__main__.__loader__#opaque"), .mk (PyData.keyHash P (Str.ofString "__spec__")) (.str (Str.ofString "__spec__") 169) .none, .mk (PyData.keyHash P (Str.ofString "__annotations__")) (.str (Str.ofString "__annotations__") 170) (.ref 6), .mk (PyData.keyHash P (Str.ofString "__builtins__")) (.str (Str.ofString "__builtins__") 171) (.ref 4), .mk (PyData.keyHash P (Str.ofString "__file__")) (.str (Str.ofString "__file__") 173) (.str (Str.ofString "/claim/cut.py") 172), .mk (PyData.keyHash P (Str.ofString "__cached__")) (.str (Str.ofString "__cached__") 174) .none, .mk (PyData.keyHash P (Str.ofString "_wall")) (.str (Str.ofString "_wall") 193) (.ref 21), .mk (PyData.keyHash P (Str.ofString "PressError")) (.str (Str.ofString "PressError") 224) (.ref 38), .mk (PyData.keyHash P (Str.ofString "FrameError")) (.str (Str.ofString "FrameError") 240) (.ref 51), .mk (PyData.keyHash P (Str.ofString "ScanError")) (.str (Str.ofString "ScanError") 256) (.ref 63), .mk (PyData.keyHash P (Str.ofString "KINDS")) (.str (Str.ofString "KINDS") 295) (.ref 78), .mk (PyData.keyHash P (Str.ofString "MOST_SIZE")) (.str (Str.ofString "MOST_SIZE") 297) (.int 65535 296), .mk (PyData.keyHash P (Str.ofString "MOST_COMPONENTS")) (.str (Str.ofString "MOST_COMPONENTS") 299) (.int 255 298), .mk (PyData.keyHash P (Str.ofString "MOST_SAMPLING")) (.str (Str.ofString "MOST_SAMPLING") 301) (.int 4 300), .mk (PyData.keyHash P (Str.ofString "MOST_SLOT")) (.str (Str.ofString "MOST_SLOT") 303) (.int 3 302), .mk (PyData.keyHash P (Str.ofString "parts")) (.str (Str.ofString "parts") 311) (.ref 85), .mk (PyData.keyHash P (Str.ofString "Component")) (.str (Str.ofString "Component") 346) (.ref 102), .mk (PyData.keyHash P (Str.ofString "Frame")) (.str (Str.ofString "Frame") 439) (.ref 168), .mk (PyData.keyHash P (Str.ofString "kind_row")) (.str (Str.ofString "kind_row") 447) (.ref 179), .mk (PyData.keyHash P (Str.ofString "kind_of_code")) (.str (Str.ofString "kind_of_code") 455) (.ref 186), .mk (PyData.keyHash P (Str.ofString "check_component")) (.str (Str.ofString "check_component") 462) (.ref 193), .mk (PyData.keyHash P (Str.ofString "check_frame")) (.str (Str.ofString "check_frame") 471) (.ref 200), .mk (PyData.keyHash P (Str.ofString "place_of")) (.str (Str.ofString "place_of") 480) (.ref 207), .mk (PyData.keyHash P (Str.ofString "ComponentHead")) (.str (Str.ofString "ComponentHead") 517) (.ref 224), .mk (PyData.keyHash P (Str.ofString "FrameHead")) (.str (Str.ofString "FrameHead") 554) (.ref 245), .mk (PyData.keyHash P (Str.ofString "ScanHead")) (.str (Str.ofString "ScanHead") 595) (.ref 266), .mk (PyData.keyHash P (Str.ofString "Scan")) (.str (Str.ofString "Scan") 652) (.ref 301), .mk (PyData.keyHash P (Str.ofString "frame_from_head")) (.str (Str.ofString "frame_from_head") 660) (.ref 310), .mk (PyData.keyHash P (Str.ofString "frame_to_head")) (.str (Str.ofString "frame_to_head") 666) (.ref 315), .mk (PyData.keyHash P (Str.ofString "scan_from_head")) (.str (Str.ofString "scan_from_head") 677) (.ref 322)] 33) #[]
noncomputable def hd.x12_3 (_P : Params) : Obj := .mk .none none (.fields #[.int 1 0, .int 0 0, .ref 20, .int 5 0, .int 0 0, .ref 27, .int 10 0, .int 0 0, .ref 47, .int 12 0, .int 0 0, .ref 59, .int 20 0, .int 0 0, .ref 84, .int 22 0, .int 0 0, .ref 91, .int 29 0, .int 0 0, .ref 112, .int 62 0, .int 0 0, .ref 178, .int 67 0, .int 0 0, .ref 185, .int 72 0, .int 0 0, .ref 192, .int 79 0, .int 0 0, .ref 199, .int 92 0, .int 0 0, .ref 206, .int 98 0, .int 0 0, .ref 213, .int 105 0, .int 0 0, .ref 234, .int 113 0, .int 0 0, .ref 255, .int 124 0, .int 0 0, .ref 276, .int 141 0, .int 0 0, .ref 309, .int 148 0, .int 0 0, .ref 314, .int 151 0, .int 0 0, .ref 321]) #[]
noncomputable def hd.x250 (_P : Params) : Obj := .mk (.type "tuple") none (.seq #[]) #[]
noncomputable def hd.x251 (_P : Params) : Obj := .mk (.type "builtin_function_or_method") none (.fields #[.builtin "type.__prepare__", .type "type"]) #[]
noncomputable def hd.x252 (P : Params) : Obj := .mk (.type "dict") none (.dict #[.mk (PyData.keyHash P (Str.ofString "__module__")) (.str (Str.ofString "__module__") 562) (.str (Str.ofString "pixelpress.head_segments") 481), .mk (PyData.keyHash P (Str.ofString "__qualname__")) (.str (Str.ofString "__qualname__") 564) (.str (Str.ofString "ScanHead") 563), .mk (PyData.keyHash P (Str.ofString "__firstlineno__")) (.str (Str.ofString "__firstlineno__") 566) (.int 113 565), .mk (PyData.keyHash P (Str.ofString "__init__")) (.str (Str.ofString "__init__") 580) (.ref 263), .mk (PyData.keyHash P (Str.ofString "__static_attributes__")) (.str (Str.ofString "__static_attributes__") 588) (.ref 264)] 5) #[]
noncomputable def hd.x253 (_P : Params) : Obj := .mk (.type "tuple") none (.seq #[]) #[]
noncomputable def hd.x254 (_P : Params) : Obj := .mk .none none (.fields #[.int 115 0, .int 4 0, .ref 262]) #[]
noncomputable def hd.x255 (_P : Params) : Obj := .mk (.type "code") none (.fields #[.str (Str.ofString "ScanHead") 557, .str (Str.ofString "ScanHead") 558, .str (Str.ofString "/claim/cut.py") 559, .int 113 0, .int 0 0, .int 0 0, .int 0 0, .int 0 0, .ref 253, .bool false, .int 181 0, .ref 254, .none, .none, .none, .none, .int 560 0, .int 113 0, .str (Str.ofString "/claim/cut.py") 561]) #[]
noncomputable def hd.x256 (_P : Params) : Obj := .mk (.type "frame") none .plain #[some (.ref 255), some (.ref 3), some (.ref 252), none, some (.str (Str.ofString "pixelpress.head_segments") 481), none, some (.ref 0)]
noncomputable def hd.x257 (_P : Params) : Obj := .mk (.type "tuple") none (.seq #[]) #[]
noncomputable def hd.x258 (_P : Params) : Obj := .mk .none none (.fields #[]) #[]
noncomputable def hd.x259 (_P : Params) : Obj := .mk (.type "tuple") none (.seq #[.str (Str.ofString "self") 570, .str (Str.ofString "idents") 571, .str (Str.ofString "dc_slots") 572, .str (Str.ofString "ac_slots") 573, .str (Str.ofString "start") 574, .str (Str.ofString "end") 575, .str (Str.ofString "high") 576, .str (Str.ofString "low") 577]) #[]
noncomputable def hd.x260 (_P : Params) : Obj := .mk (.type "tuple") none (.seq #[]) #[]
noncomputable def hd.x261 (_P : Params) : Obj := .mk .none none (.func (.mk (Str.ofString "__init__") (Str.ofString "ScanHead.__init__") hd.f19.1 (.stmts hd.f19.2.1) hd.f19.2.2 0 [] .none .none .none .none none .none .none 0)) #[]
noncomputable def hd.x262 (_P : Params) : Obj := .mk (.type "code") none (.fields #[.str (Str.ofString "__init__") 567, .str (Str.ofString "ScanHead.__init__") 568, .str (Str.ofString "/claim/cut.py") 569, .int 115 0, .int 8 0, .int 0 0, .int 0 0, .int 3 0, .ref 257, .bool true, .int 181 0, .ref 258, .none, .ref 259, .ref 260, .ref 261, .int 578 0, .int 115 0, .str (Str.ofString "/claim/cut.py") 579]) #[]
noncomputable def hd.x263 (_P : Params) : Obj := .mk (.type "function") none (.func (.mk (Str.ofString "__init__") (Str.ofString "ScanHead.__init__") hd.f19.1 (.stmts hd.f19.2.1) hd.f19.2.2 3 [] .none .none .none (.str (Str.ofString "pixelpress.head_segments") 481) none (.ref 262) .none 0)) #[]
noncomputable def hd.x264 (_P : Params) : Obj := .mk (.type "tuple") none (.seq #[.str (Str.ofString "ac_slots") 581, .str (Str.ofString "dc_slots") 582, .str (Str.ofString "end") 583, .str (Str.ofString "high") 584, .str (Str.ofString "idents") 585, .str (Str.ofString "low") 586, .str (Str.ofString "start") 587]) #[]
noncomputable def hd.x265 (P : Params) : Obj := .mk (.type "dict") none (.dict #[.mk (PyData.keyHash P (Str.ofString "__module__")) (.str (Str.ofString "__module__") 562) (.str (Str.ofString "pixelpress.head_segments") 481), .mk (PyData.keyHash P (Str.ofString "__firstlineno__")) (.str (Str.ofString "__firstlineno__") 566) (.int 113 565), .mk (PyData.keyHash P (Str.ofString "__init__")) (.str (Str.ofString "__init__") 580) (.ref 263), .mk (PyData.keyHash P (Str.ofString "__static_attributes__")) (.str (Str.ofString "__static_attributes__") 588) (.ref 264), .mk (PyData.keyHash P (Str.ofString "__dict__")) (.str (Str.ofString "__dict__") 590) (.ref 267), .mk (PyData.keyHash P (Str.ofString "__weakref__")) (.str (Str.ofString "__weakref__") 592) (.ref 268), .mk (PyData.keyHash P (Str.ofString "__doc__")) (.str (Str.ofString "__doc__") 593) .none] 4) #[]
noncomputable def hd.x266 (_P : Params) : Obj := .mk (.type "type") none (.cls (.mk (Str.ofString "ScanHead") [.type "object"] [.ref 266, .type "object"] 265 (Str.ofString "ScanHead") true [] [] false none false)) #[none, none, some (.str (Str.ofString "ScanHead") 555), some (.str (Str.ofString "ScanHead") 563), some (.builtin "object.__new__"), some (.bool true)]
noncomputable def hd.x267 (_P : Params) : Obj := .mk (.type "getset_descriptor") none (.fields #[.str (Str.ofString "__dict__") 589, .ref 266, .builtin "function.__dict__", .builtin "function.__dict__#set"]) #[]
noncomputable def hd.x268 (_P : Params) : Obj := .mk (.type "getset_descriptor") none (.fields #[.str (Str.ofString "__weakref__") 591, .ref 266, .builtin "ExceptionGroup.__weakref__", .none]) #[]
noncomputable def hd.x269 (_P : Params) : Obj := .mk (.type "super") none (.fields #[.ref 266, .ref 266, .ref 266]) #[]
noncomputable def hd.x270 (_P : Params) : Obj := .mk (.type "builtin_function_or_method") none (.fields #[.builtin "object.__init_subclass__", .ref 266]) #[]
noncomputable def hd.x271 (_P : Params) : Obj := .mk (.type "tuple") none (.seq #[]) #[]
noncomputable def hd.x272 (_P : Params) : Obj := .mk (.type "builtin_function_or_method") none (.fields #[.builtin "type.__prepare__", .type "type"]) #[]
noncomputable def hd.x273 (P : Params) : Obj := .mk (.type "dict") none (.dict #[.mk (PyData.keyHash P (Str.ofString "__module__")) (.str (Str.ofString "__module__") 605) (.str (Str.ofString "pixelpress.scans") 596), .mk (PyData.keyHash P (Str.ofString "__qualname__")) (.str (Str.ofString "__qualname__") 607) (.str (Str.ofString "Scan") 606), .mk (PyData.keyHash P (Str.ofString "__firstlineno__")) (.str (Str.ofString "__firstlineno__") 609) (.int 124 608), .mk (PyData.keyHash P (Str.ofString "__init__")) (.str (Str.ofString "__init__") 623) (.ref 284), .mk (PyData.keyHash P (Str.ofString "is_alone")) (.str (Str.ofString "is_alone") 630) (.ref 291), .mk (PyData.keyHash P (Str.ofString "is_finer")) (.str (Str.ofString "is_finer") 637) (.ref 298), .mk (PyData.keyHash P (Str.ofString "__static_attributes__")) (.str (Str.ofString "__static_attributes__") 645) (.ref 299)] 7) #[]
noncomputable def hd.x274 (_P : Params) : Obj := .mk (.type "tuple") none (.seq #[]) #[]
noncomputable def hd.x275 (_P : Params) : Obj := .mk .none none (.fields #[.int 126 0, .int 4 0, .ref 283, .int 135 0, .int 4 0, .ref 290, .int 138 0, .int 4 0, .ref 297]) #[]
noncomputable def hd.x276 (_P : Params) : Obj := .mk (.type "code") none (.fields #[.str (Str.ofString "Scan") 600, .str (Str.ofString "Scan") 601, .str (Str.ofString "/claim/cut.py") 602, .int 124 0, .int 0 0, .int 0 0, .int 0 0, .int 0 0, .ref 274, .bool false, .int 181 0, .ref 275, .none, .none, .none, .none, .int 603 0, .int 124 0, .str (Str.ofString "/claim/cut.py") 604]) #[]
noncomputable def hd.x277 (_P : Params) : Obj := .mk (.type "frame") none .plain #[some (.ref 276), some (.ref 3), some (.ref 273), none, some (.str (Str.ofString "pixelpress.scans") 596), none, some (.ref 0)]
noncomputable def hd.x278 (_P : Params) : Obj := .mk (.type "tuple") none (.seq #[]) #[]
noncomputable def hd.x279 (_P : Params) : Obj := .mk .none none (.fields #[]) #[]
noncomputable def hd.x280 (_P : Params) : Obj := .mk (.type "tuple") none (.seq #[.str (Str.ofString "self") 613, .str (Str.ofString "places") 614, .str (Str.ofString "dc_slots") 615, .str (Str.ofString "ac_slots") 616, .str (Str.ofString "start") 617, .str (Str.ofString "end") 618, .str (Str.ofString "high") 619, .str (Str.ofString "low") 620]) #[]
noncomputable def hd.x281 (_P : Params) : Obj := .mk (.type "tuple") none (.seq #[]) #[]
noncomputable def hd.x282 (_P : Params) : Obj := .mk .none none (.func (.mk (Str.ofString "__init__") (Str.ofString "Scan.__init__") hd.f20.1 (.stmts hd.f20.2.1) hd.f20.2.2 0 [] .none .none .none .none none .none .none 0)) #[]
noncomputable def hd.x283 (_P : Params) : Obj := .mk (.type "code") none (.fields #[.str (Str.ofString "__init__") 610, .str (Str.ofString "Scan.__init__") 611, .str (Str.ofString "/claim/cut.py") 612, .int 126 0, .int 8 0, .int 0 0, .int 0 0, .int 3 0, .ref 278, .bool true, .int 181 0, .ref 279, .none, .ref 280, .ref 281, .ref 282, .int 621 0, .int 126 0, .str (Str.ofString "/claim/cut.py") 622]) #[]
noncomputable def hd.x284 (_P : Params) : Obj := .mk (.type "function") none (.func (.mk (Str.ofString "__init__") (Str.ofString "Scan.__init__") hd.f20.1 (.stmts hd.f20.2.1) hd.f20.2.2 3 [] .none .none .none (.str (Str.ofString "pixelpress.scans") 596) none (.ref 283) .none 0)) #[]
noncomputable def hd.x285 (_P : Params) : Obj := .mk (.type "tuple") none (.seq #[]) #[]
noncomputable def hd.x286 (_P : Params) : Obj := .mk .none none (.fields #[]) #[]
noncomputable def hd.x287 (_P : Params) : Obj := .mk (.type "tuple") none (.seq #[.str (Str.ofString "self") 627]) #[]
noncomputable def hd.x288 (_P : Params) : Obj := .mk (.type "tuple") none (.seq #[]) #[]
noncomputable def hd.x289 (_P : Params) : Obj := .mk .none none (.func (.mk (Str.ofString "is_alone") (Str.ofString "Scan.is_alone") hd.f21.1 (.stmts hd.f21.2.1) hd.f21.2.2 0 [] .none .none .none .none none .none .none 0)) #[]
noncomputable def hd.x290 (_P : Params) : Obj := .mk (.type "code") none (.fields #[.str (Str.ofString "is_alone") 624, .str (Str.ofString "Scan.is_alone") 625, .str (Str.ofString "/claim/cut.py") 626, .int 135 0, .int 1 0, .int 0 0, .int 0 0, .int 3 0, .ref 285, .bool true, .int 181 0, .ref 286, .none, .ref 287, .ref 288, .ref 289, .int 628 0, .int 135 0, .str (Str.ofString "/claim/cut.py") 629]) #[]
noncomputable def hd.x291 (_P : Params) : Obj := .mk (.type "function") none (.func (.mk (Str.ofString "is_alone") (Str.ofString "Scan.is_alone") hd.f21.1 (.stmts hd.f21.2.1) hd.f21.2.2 3 [] .none .none .none (.str (Str.ofString "pixelpress.scans") 596) none (.ref 290) .none 0)) #[]
noncomputable def hd.x292 (_P : Params) : Obj := .mk (.type "tuple") none (.seq #[]) #[]
noncomputable def hd.x293 (_P : Params) : Obj := .mk .none none (.fields #[]) #[]
noncomputable def hd.x294 (_P : Params) : Obj := .mk (.type "tuple") none (.seq #[.str (Str.ofString "self") 634]) #[]
noncomputable def hd.x295 (_P : Params) : Obj := .mk (.type "tuple") none (.seq #[]) #[]
noncomputable def hd.x296 (_P : Params) : Obj := .mk .none none (.func (.mk (Str.ofString "is_finer") (Str.ofString "Scan.is_finer") hd.f22.1 (.stmts hd.f22.2.1) hd.f22.2.2 0 [] .none .none .none .none none .none .none 0)) #[]
noncomputable def hd.x297 (_P : Params) : Obj := .mk (.type "code") none (.fields #[.str (Str.ofString "is_finer") 631, .str (Str.ofString "Scan.is_finer") 632, .str (Str.ofString "/claim/cut.py") 633, .int 138 0, .int 1 0, .int 0 0, .int 0 0, .int 3 0, .ref 292, .bool true, .int 181 0, .ref 293, .none, .ref 294, .ref 295, .ref 296, .int 635 0, .int 138 0, .str (Str.ofString "/claim/cut.py") 636]) #[]
noncomputable def hd.x298 (_P : Params) : Obj := .mk (.type "function") none (.func (.mk (Str.ofString "is_finer") (Str.ofString "Scan.is_finer") hd.f22.1 (.stmts hd.f22.2.1) hd.f22.2.2 3 [] .none .none .none (.str (Str.ofString "pixelpress.scans") 596) none (.ref 297) .none 0)) #[]
noncomputable def hd.x299 (_P : Params) : Obj := .mk (.type "tuple") none (.seq #[.str (Str.ofString "ac_slots") 638, .str (Str.ofString "dc_slots") 639, .str (Str.ofString "end") 640, .str (Str.ofString "high") 641, .str (Str.ofString "low") 642, .str (Str.ofString "places") 643, .str (Str.ofString "start") 644]) #[]
noncomputable def hd.x300 (P : Params) : Obj := .mk (.type "dict") none (.dict #[.mk (PyData.keyHash P (Str.ofString "__module__")) (.str (Str.ofString "__module__") 605) (.str (Str.ofString "pixelpress.scans") 596), .mk (PyData.keyHash P (Str.ofString "__firstlineno__")) (.str (Str.ofString "__firstlineno__") 609) (.int 124 608), .mk (PyData.keyHash P (Str.ofString "__init__")) (.str (Str.ofString "__init__") 623) (.ref 284), .mk (PyData.keyHash P (Str.ofString "is_alone")) (.str (Str.ofString "is_alone") 630) (.ref 291), .mk (PyData.keyHash P (Str.ofString "is_finer")) (.str (Str.ofString "is_finer") 637) (.ref 298), .mk (PyData.keyHash P (Str.ofString "__static_attributes__")) (.str (Str.ofString "__static_attributes__") 645) (.ref 299), .mk (PyData.keyHash P (Str.ofString "__dict__")) (.str (Str.ofString "__dict__") 647) (.ref 302), .mk (PyData.keyHash P (Str.ofString "__weakref__")) (.str (Str.ofString "__weakref__") 649) (.ref 303), .mk (PyData.keyHash P (Str.ofString "__doc__")) (.str (Str.ofString "__doc__") 650) .none] 4) #[]
noncomputable def hd.x301 (_P : Params) : Obj := .mk (.type "type") none (.cls (.mk (Str.ofString "Scan") [.type "object"] [.ref 301, .type "object"] 300 (Str.ofString "Scan") true [] [] false none false)) #[none, none, some (.str (Str.ofString "Scan") 598), some (.str (Str.ofString "Scan") 606), some (.builtin "object.__new__"), some (.bool true)]
noncomputable def hd.x302 (_P : Params) : Obj := .mk (.type "getset_descriptor") none (.fields #[.str (Str.ofString "__dict__") 646, .ref 301, .builtin "function.__dict__", .builtin "function.__dict__#set"]) #[]
noncomputable def hd.x303 (_P : Params) : Obj := .mk (.type "getset_descriptor") none (.fields #[.str (Str.ofString "__weakref__") 648, .ref 301, .builtin "ExceptionGroup.__weakref__", .none]) #[]
noncomputable def hd.x304 (_P : Params) : Obj := .mk (.type "super") none (.fields #[.ref 301, .ref 301, .ref 301]) #[]
noncomputable def hd.x305 (_P : Params) : Obj := .mk (.type "builtin_function_or_method") none (.fields #[.builtin "object.__init_subclass__", .ref 301]) #[]
noncomputable def hd.x306 (_P : Params) : Obj := .mk (.type "tuple") none (.seq #[]) #[]
noncomputable def hd.x307 (_P : Params) : Obj := .mk .none none (.fields #[]) #[]
noncomputable def hd.x308 (_P : Params) : Obj := .mk .none none (.func (.mk (Str.ofString "frame_from_head") (Str.ofString "frame_from_head") hd.f23.1 (.stmts hd.f23.2.1) hd.f23.2.2 0 [] .none .none .none .none none .none .none 0)) #[]
noncomputable def hd.x309 (_P : Params) : Obj := .mk (.type "code") none (.fields #[.str (Str.ofString "frame_from_head") 655, .str (Str.ofString "frame_from_head") 656, .str (Str.ofString "/claim/cut.py") 657, .int 141 0, .int 2 0, .int 0 0, .int 0 0, .int 3 0, .ref 306, .bool true, .int 181 0, .ref 307, .none, .none, .none, .ref 308, .int 658 0, .int 141 0, .str (Str.ofString "/claim/cut.py") 659]) #[]
noncomputable def hd.x310 (_P : Params) : Obj := .mk (.type "function") none (.func (.mk (Str.ofString "frame_from_head") (Str.ofString "frame_from_head") hd.f23.1 (.stmts hd.f23.2.1) hd.f23.2.2 3 [] .none .none .none (.str (Str.ofString "pixelpress.frame_heads") 653) none (.ref 309) .none 0)) #[]
noncomputable def hd.x311 (_P : Params) : Obj := .mk (.type "tuple") none (.seq #[]) #[]
noncomputable def hd.x312 (_P : Params) : Obj := .mk .none none (.fields #[]) #[]
noncomputable def hd.x313 (_P : Params) : Obj := .mk .none none (.func (.mk (Str.ofString "frame_to_head") (Str.ofString "frame_to_head") hd.f24.1 (.stmts hd.f24.2.1) hd.f24.2.2 0 [] .none .none .none .none none .none .none 0)) #[]
noncomputable def hd.x314 (_P : Params) : Obj := .mk (.type "code") none (.fields #[.str (Str.ofString "frame_to_head") 661, .str (Str.ofString "frame_to_head") 662, .str (Str.ofString "/claim/cut.py") 663, .int 148 0, .int 1 0, .int 0 0, .int 0 0, .int 3 0, .ref 311, .bool true, .int 181 0, .ref 312, .none, .none, .none, .ref 313, .int 664 0, .int 148 0, .str (Str.ofString "/claim/cut.py") 665]) #[]
noncomputable def hd.x315 (_P : Params) : Obj := .mk (.type "function") none (.func (.mk (Str.ofString "frame_to_head") (Str.ofString "frame_to_head") hd.f24.1 (.stmts hd.f24.2.1) hd.f24.2.2 3 [] .none .none .none (.str (Str.ofString "pixelpress.frame_heads") 653) none (.ref 314) .none 0)) #[]
noncomputable def hd.x316 (_P : Params) : Obj := .mk (.type "tuple") none (.seq #[]) #[]
noncomputable def hd.x317 (_P : Params) : Obj := .mk .none none (.fields #[]) #[]
noncomputable def hd.x318 (_P : Params) : Obj := .mk (.type "tuple") none (.seq #[.str (Str.ofString "head") 670, .str (Str.ofString "frame") 671, .str (Str.ofString "places") 672, .str (Str.ofString "ident") 673, .str (Str.ofString "place") 674]) #[]
noncomputable def hd.x319 (_P : Params) : Obj := .mk (.type "tuple") none (.seq #[]) #[]
noncomputable def hd.x320 (_P : Params) : Obj := .mk .none none (.func (.mk (Str.ofString "scan_from_head") (Str.ofString "scan_from_head") hd.f25.1 (.stmts hd.f25.2.1) hd.f25.2.2 0 [] .none .none .none .none none .none .none 0)) #[]
noncomputable def hd.x321 (_P : Params) : Obj := .mk (.type "code") none (.fields #[.str (Str.ofString "scan_from_head") 667, .str (Str.ofString "scan_from_head") 668, .str (Str.ofString "/claim/cut.py") 669, .int 151 0, .int 2 0, .int 0 0, .int 0 0, .int 3 0, .ref 316, .bool true, .int 181 0, .ref 317, .none, .ref 318, .ref 319, .ref 320, .int 675 0, .int 151 0, .str (Str.ofString "/claim/cut.py") 676]) #[]
noncomputable def hd.x322 (_P : Params) : Obj := .mk (.type "function") none (.func (.mk (Str.ofString "scan_from_head") (Str.ofString "scan_from_head") hd.f25.1 (.stmts hd.f25.2.1) hd.f25.2.2 3 [] .none .none .none (.str (Str.ofString "pixelpress.frame_heads") 653) none (.ref 321) .none 0)) #[]
noncomputable def hd.x3_4 (P : Params) : Obj := .mk (.type "dict") none (.dict #[.mk (PyData.keyHash P (Str.ofString "__name__")) (.str (Str.ofString "__name__") 165) (.str (Str.ofString "law_nz0252_01") 684), .mk (PyData.keyHash P (Str.ofString "__doc__")) (.str (Str.ofString "__doc__") 166) .none, .mk (PyData.keyHash P (Str.ofString "__package__")) (.str (Str.ofString "__package__") 167) .none, .mk (PyData.keyHash P (Str.ofString "__loader__")) (.str (Str.ofString "__loader__") 168) (.builtin "__main__.__loader__#opaque"), .mk (PyData.keyHash P (Str.ofString "__spec__")) (.str (Str.ofString "__spec__") 169) .none, .mk (PyData.keyHash P (Str.ofString "__annotations__")) (.str (Str.ofString "__annotations__") 170) (.ref 6), .mk (PyData.keyHash P (Str.ofString "__builtins__")) (.str (Str.ofString "__builtins__") 171) (.ref 4), .mk (PyData.keyHash P (Str.ofString "__file__")) (.str (Str.ofString "__file__") 173) (.str (Str.ofString "/claim/cut.py") 172), .mk (PyData.keyHash P (Str.ofString "__cached__")) (.str (Str.ofString "__cached__") 174) .none, .mk (PyData.keyHash P (Str.ofString "_wall")) (.str (Str.ofString "_wall") 193) (.ref 21), .mk (PyData.keyHash P (Str.ofString "PressError")) (.str (Str.ofString "PressError") 224) (.ref 38), .mk (PyData.keyHash P (Str.ofString "FrameError")) (.str (Str.ofString "FrameError") 240) (.ref 51), .mk (PyData.keyHash P (Str.ofString "ScanError")) (.str (Str.ofString "ScanError") 256) (.ref 63), .mk (PyData.keyHash P (Str.ofString "KINDS")) (.str (Str.ofString "KINDS") 295) (.ref 78), .mk (PyData.keyHash P (Str.ofString "MOST_SIZE")) (.str (Str.ofString "MOST_SIZE") 297) (.int 65535 296), .mk (PyData.keyHash P (Str.ofString "MOST_COMPONENTS")) (.str (Str.ofString "MOST_COMPONENTS") 299) (.int 255 298), .mk (PyData.keyHash P (Str.ofString "MOST_SAMPLING")) (.str (Str.ofString "MOST_SAMPLING") 301) (.int 4 300), .mk (PyData.keyHash P (Str.ofString "MOST_SLOT")) (.str (Str.ofString "MOST_SLOT") 303) (.int 3 302), .mk (PyData.keyHash P (Str.ofString "parts")) (.str (Str.ofString "parts") 311) (.ref 85), .mk (PyData.keyHash P (Str.ofString "Component")) (.str (Str.ofString "Component") 346) (.ref 102), .mk (PyData.keyHash P (Str.ofString "Frame")) (.str (Str.ofString "Frame") 439) (.ref 168), .mk (PyData.keyHash P (Str.ofString "kind_row")) (.str (Str.ofString "kind_row") 447) (.ref 179), .mk (PyData.keyHash P (Str.ofString "kind_of_code")) (.str (Str.ofString "kind_of_code") 455) (.ref 186), .mk (PyData.keyHash P (Str.ofString "check_component")) (.str (Str.ofString "check_component") 462) (.ref 193), .mk (PyData.keyHash P (Str.ofString "check_frame")) (.str (Str.ofString "check_frame") 471) (.ref 200), .mk (PyData.keyHash P (Str.ofString "place_of")) (.str (Str.ofString "place_of") 480) (.ref 207), .mk (PyData.keyHash P (Str.ofString "ComponentHead")) (.str (Str.ofString "ComponentHead") 517) (.ref 224), .mk (PyData.keyHash P (Str.ofString "FrameHead")) (.str (Str.ofString "FrameHead") 554) (.ref 245), .mk (PyData.keyHash P (Str.ofString "ScanHead")) (.str (Str.ofString "ScanHead") 595) (.ref 266), .mk (PyData.keyHash P (Str.ofString "Scan")) (.str (Str.ofString "Scan") 652) (.ref 301), .mk (PyData.keyHash P (Str.ofString "frame_from_head")) (.str (Str.ofString "frame_from_head") 660) (.ref 310), .mk (PyData.keyHash P (Str.ofString "frame_to_head")) (.str (Str.ofString "frame_to_head") 666) (.ref 315), .mk (PyData.keyHash P (Str.ofString "scan_from_head")) (.str (Str.ofString "scan_from_head") 677) (.ref 322), .mk (PyData.keyHash P (Str.ofString "scan_to_head")) (.str (Str.ofString "scan_to_head") 683) (.ref 327), .mk (PyData.keyHash P (Str.ofString "_law_pool")) (.str (Str.ofString "_law_pool") 696) (.ref 334), .mk (PyData.keyHash P (Str.ofString "_law_take")) (.str (Str.ofString "_law_take") 705) (.ref 341), .mk (PyData.keyHash P (Str.ofString "_law_one")) (.str (Str.ofString "_law_one") 713) (.ref 348), .mk (PyData.keyHash P (Str.ofString "_law_kinds")) (.str (Str.ofString "_law_kinds") 720) (.ref 355), .mk (PyData.keyHash P (Str.ofString "_law_frame_rows")) (.str (Str.ofString "_law_frame_rows") 733) (.ref 362), .mk (PyData.keyHash P (Str.ofString "_law_is_let")) (.str (Str.ofString "_law_is_let") 739) (.ref 367), .mk (PyData.keyHash P (Str.ofString "_law_head")) (.str (Str.ofString "_law_head") 745) (.ref 372), .mk (PyData.keyHash P (Str.ofString "_law_rows")) (.str (Str.ofString "_law_rows") 751) (.ref 377), .mk (PyData.keyHash P (Str.ofString "_law_frame_right")) (.str (Str.ofString "_law_frame_right") 762) (.ref 384), .mk (PyData.keyHash P (Str.ofString "_law_scan_rows")) (.str (Str.ofString "_law_scan_rows") 768) (.ref 389), .mk (PyData.keyHash P (Str.ofString "_law_scan_head")) (.str (Str.ofString "_law_scan_head") 775) (.ref 396), .mk (PyData.keyHash P (Str.ofString "_law_told")) (.str (Str.ofString "_law_told") 782) (.ref 403), .mk (PyData.keyHash P (Str.ofString "_law_scan_right")) (.str (Str.ofString "_law_scan_right") 788) (.ref 408), .mk (PyData.keyHash P (Str.ofString "law")) (.str (Str.ofString "law") 801) (.ref 415)] 48) #[]
noncomputable def hd.x12_4 (_P : Params) : Obj := .mk .none none (.fields #[.int 1 0, .int 0 0, .ref 20, .int 5 0, .int 0 0, .ref 27, .int 10 0, .int 0 0, .ref 47, .int 12 0, .int 0 0, .ref 59, .int 20 0, .int 0 0, .ref 84, .int 22 0, .int 0 0, .ref 91, .int 29 0, .int 0 0, .ref 112, .int 62 0, .int 0 0, .ref 178, .int 67 0, .int 0 0, .ref 185, .int 72 0, .int 0 0, .ref 192, .int 79 0, .int 0 0, .ref 199, .int 92 0, .int 0 0, .ref 206, .int 98 0, .int 0 0, .ref 213, .int 105 0, .int 0 0, .ref 234, .int 113 0, .int 0 0, .ref 255, .int 124 0, .int 0 0, .ref 276, .int 141 0, .int 0 0, .ref 309, .int 148 0, .int 0 0, .ref 314, .int 151 0, .int 0 0, .ref 321, .int 159 0, .int 0 0, .ref 326, .int 163 0, .int 0 0, .ref 333, .int 170 0, .int 0 0, .ref 340, .int 177 0, .int 0 0, .ref 347, .int 179 0, .int 0 0, .ref 354, .int 183 0, .int 0 0, .ref 361, .int 200 0, .int 0 0, .ref 366, .int 210 0, .int 0 0, .ref 371, .int 213 0, .int 0 0, .ref 376, .int 215 0, .int 0 0, .ref 383, .int 222 0, .int 0 0, .ref 388, .int 226 0, .int 0 0, .ref 395, .int 228 0, .int 0 0, .ref 402, .int 230 0, .int 0 0, .ref 407, .int 245 0, .int 0 0, .ref 414]) #[]
noncomputable def hd.x323 (_P : Params) : Obj := .mk (.type "tuple") none (.seq #[]) #[]
noncomputable def hd.x324 (_P : Params) : Obj := .mk .none none (.fields #[]) #[]
noncomputable def hd.x325 (_P : Params) : Obj := .mk .none none (.func (.mk (Str.ofString "scan_to_head") (Str.ofString "scan_to_head") hd.f26.1 (.stmts hd.f26.2.1) hd.f26.2.2 0 [] .none .none .none .none none .none .none 0)) #[]
noncomputable def hd.x326 (_P : Params) : Obj := .mk (.type "code") none (.fields #[.str (Str.ofString "scan_to_head") 678, .str (Str.ofString "scan_to_head") 679, .str (Str.ofString "/claim/cut.py") 680, .int 159 0, .int 2 0, .int 0 0, .int 0 0, .int 3 0, .ref 323, .bool true, .int 181 0, .ref 324, .none, .none, .none, .ref 325, .int 681 0, .int 159 0, .str (Str.ofString "/claim/cut.py") 682]) #[]
noncomputable def hd.x327 (_P : Params) : Obj := .mk (.type "function") none (.func (.mk (Str.ofString "scan_to_head") (Str.ofString "scan_to_head") hd.f26.1 (.stmts hd.f26.2.1) hd.f26.2.2 3 [] .none .none .none (.str (Str.ofString "pixelpress.frame_heads") 653) none (.ref 326) .none 0)) #[]
noncomputable def hd.x328 (_P : Params) : Obj := .mk (.type "tuple") none (.seq #[]) #[]
noncomputable def hd.x329 (_P : Params) : Obj := .mk .none none (.fields #[]) #[]
noncomputable def hd.x330 (_P : Params) : Obj := .mk (.type "tuple") none (.seq #[.str (Str.ofString "script") 689, .str (Str.ofString "k") 690, .str (Str.ofString "cell") 691, .str (Str.ofString "big") 692, .str (Str.ofString "mixed") 693]) #[]
noncomputable def hd.x331 (_P : Params) : Obj := .mk (.type "tuple") none (.seq #[]) #[]
noncomputable def hd.x332 (_P : Params) : Obj := .mk .none none (.func (.mk (Str.ofString "_law_pool") (Str.ofString "_law_pool") hd.f27.1 (.stmts hd.f27.2.1) hd.f27.2.2 0 [] .none .none .none .none none .none .none 0)) #[]
noncomputable def hd.x333 (_P : Params) : Obj := .mk (.type "code") none (.fields #[.str (Str.ofString "_law_pool") 686, .str (Str.ofString "_law_pool") 687, .str (Str.ofString "/claim/cut.py") 688, .int 163 0, .int 2 0, .int 0 0, .int 0 0, .int 3 0, .ref 328, .bool true, .int 181 0, .ref 329, .none, .ref 330, .ref 331, .ref 332, .int 694 0, .int 163 0, .str (Str.ofString "/claim/cut.py") 695]) #[]
noncomputable def hd.x334 (_P : Params) : Obj := .mk (.type "function") none (.func (.mk (Str.ofString "_law_pool") (Str.ofString "_law_pool") hd.f27.1 (.stmts hd.f27.2.1) hd.f27.2.2 3 [] .none .none .none (.str (Str.ofString "law_nz0252_01") 684) none (.ref 333) .none 0)) #[]
noncomputable def hd.x335 (_P : Params) : Obj := .mk (.type "tuple") none (.seq #[]) #[]
noncomputable def hd.x336 (_P : Params) : Obj := .mk .none none (.fields #[]) #[]
noncomputable def hd.x337 (_P : Params) : Obj := .mk (.type "tuple") none (.seq #[.str (Str.ofString "source") 700, .str (Str.ofString "top") 701, .str (Str.ofString "drawn") 702]) #[]
noncomputable def hd.x338 (_P : Params) : Obj := .mk (.type "tuple") none (.seq #[]) #[]
noncomputable def hd.x339 (_P : Params) : Obj := .mk .none none (.func (.mk (Str.ofString "_law_take") (Str.ofString "_law_take") hd.f28.1 (.stmts hd.f28.2.1) hd.f28.2.2 0 [] .none .none .none .none none .none .none 0)) #[]
noncomputable def hd.x340 (_P : Params) : Obj := .mk (.type "code") none (.fields #[.str (Str.ofString "_law_take") 697, .str (Str.ofString "_law_take") 698, .str (Str.ofString "/claim/cut.py") 699, .int 170 0, .int 2 0, .int 0 0, .int 0 0, .int 3 0, .ref 335, .bool true, .int 181 0, .ref 336, .none, .ref 337, .ref 338, .ref 339, .int 703 0, .int 170 0, .str (Str.ofString "/claim/cut.py") 704]) #[]
noncomputable def hd.x341 (_P : Params) : Obj := .mk (.type "function") none (.func (.mk (Str.ofString "_law_take") (Str.ofString "_law_take") hd.f28.1 (.stmts hd.f28.2.1) hd.f28.2.2 3 [] .none .none .none (.str (Str.ofString "law_nz0252_01") 684) none (.ref 340) .none 0)) #[]
noncomputable def hd.x342 (_P : Params) : Obj := .mk (.type "tuple") none (.seq #[]) #[]
noncomputable def hd.x343 (_P : Params) : Obj := .mk .none none (.fields #[]) #[]
noncomputable def hd.x344 (_P : Params) : Obj := .mk (.type "tuple") none (.seq #[.str (Str.ofString "source") 709, .str (Str.ofString "things") 710]) #[]
noncomputable def hd.x345 (_P : Params) : Obj := .mk (.type "tuple") none (.seq #[]) #[]
noncomputable def hd.x346 (_P : Params) : Obj := .mk .none none (.func (.mk (Str.ofString "_law_one") (Str.ofString "_law_one") hd.f29.1 (.stmts hd.f29.2.1) hd.f29.2.2 0 [] .none .none .none .none none .none .none 0)) #[]
noncomputable def hd.x347 (_P : Params) : Obj := .mk (.type "code") none (.fields #[.str (Str.ofString "_law_one") 706, .str (Str.ofString "_law_one") 707, .str (Str.ofString "/claim/cut.py") 708, .int 177 0, .int 2 0, .int 0 0, .int 0 0, .int 3 0, .ref 342, .bool true, .int 181 0, .ref 343, .none, .ref 344, .ref 345, .ref 346, .int 711 0, .int 177 0, .str (Str.ofString "/claim/cut.py") 712]) #[]
noncomputable def hd.x348 (_P : Params) : Obj := .mk (.type "function") none (.func (.mk (Str.ofString "_law_one") (Str.ofString "_law_one") hd.f29.1 (.stmts hd.f29.2.1) hd.f29.2.2 3 [] .none .none .none (.str (Str.ofString "law_nz0252_01") 684) none (.ref 347) .none 0)) #[]
noncomputable def hd.x349 (_P : Params) : Obj := .mk (.type "tuple") none (.seq #[]) #[]
noncomputable def hd.x350 (_P : Params) : Obj := .mk .none none (.fields #[]) #[]
noncomputable def hd.x351 (_P : Params) : Obj := .mk (.type "tuple") none (.seq #[.str (Str.ofString "rows") 717]) #[]
noncomputable def hd.x352 (_P : Params) : Obj := .mk (.type "tuple") none (.seq #[]) #[]
noncomputable def hd.x353 (_P : Params) : Obj := .mk .none none (.func (.mk (Str.ofString "_law_kinds") (Str.ofString "_law_kinds") hd.f30.1 (.stmts hd.f30.2.1) hd.f30.2.2 0 [] .none .none .none .none none .none .none 0)) #[]
noncomputable def hd.x354 (_P : Params) : Obj := .mk (.type "code") none (.fields #[.str (Str.ofString "_law_kinds") 714, .str (Str.ofString "_law_kinds") 715, .str (Str.ofString "/claim/cut.py") 716, .int 179 0, .int 0 0, .int 0 0, .int 0 0, .int 3 0, .ref 349, .bool true, .int 181 0, .ref 350, .none, .ref 351, .ref 352, .ref 353, .int 718 0, .int 179 0, .str (Str.ofString "/claim/cut.py") 719]) #[]
noncomputable def hd.x355 (_P : Params) : Obj := .mk (.type "function") none (.func (.mk (Str.ofString "_law_kinds") (Str.ofString "_law_kinds") hd.f30.1 (.stmts hd.f30.2.1) hd.f30.2.2 3 [] .none .none .none (.str (Str.ofString "law_nz0252_01") 684) none (.ref 354) .none 0)) #[]
noncomputable def hd.x356 (_P : Params) : Obj := .mk (.type "tuple") none (.seq #[]) #[]
noncomputable def hd.x357 (_P : Params) : Obj := .mk .none none (.fields #[]) #[]
noncomputable def hd.x358 (_P : Params) : Obj := .mk (.type "tuple") none (.seq #[.str (Str.ofString "source") 724, .str (Str.ofString "code") 725, .str (Str.ofString "first") 726, .str (Str.ofString "members") 727, .str (Str.ofString "turn") 728, .str (Str.ofString "at") 729, .str (Str.ofString "way") 730]) #[]
noncomputable def hd.x359 (_P : Params) : Obj := .mk (.type "tuple") none (.seq #[]) #[]
noncomputable def hd.x360 (_P : Params) : Obj := .mk .none none (.func (.mk (Str.ofString "_law_frame_rows") (Str.ofString "_law_frame_rows") hd.f31.1 (.stmts hd.f31.2.1) hd.f31.2.2 0 [] .none .none .none .none none .none .none 0)) #[]
noncomputable def hd.x361 (_P : Params) : Obj := .mk (.type "code") none (.fields #[.str (Str.ofString "_law_frame_rows") 721, .str (Str.ofString "_law_frame_rows") 722, .str (Str.ofString "/claim/cut.py") 723, .int 183 0, .int 1 0, .int 0 0, .int 0 0, .int 3 0, .ref 356, .bool true, .int 181 0, .ref 357, .none, .ref 358, .ref 359, .ref 360, .int 731 0, .int 183 0, .str (Str.ofString "/claim/cut.py") 732]) #[]
noncomputable def hd.x362 (_P : Params) : Obj := .mk (.type "function") none (.func (.mk (Str.ofString "_law_frame_rows") (Str.ofString "_law_frame_rows") hd.f31.1 (.stmts hd.f31.2.1) hd.f31.2.2 3 [] .none .none .none (.str (Str.ofString "law_nz0252_01") 684) none (.ref 361) .none 0)) #[]
noncomputable def hd.x363 (_P : Params) : Obj := .mk (.type "tuple") none (.seq #[]) #[]
noncomputable def hd.x364 (_P : Params) : Obj := .mk .none none (.fields #[]) #[]
noncomputable def hd.x365 (_P : Params) : Obj := .mk .none none (.func (.mk (Str.ofString "_law_is_let") (Str.ofString "_law_is_let") hd.f32.1 (.stmts hd.f32.2.1) hd.f32.2.2 0 [] .none .none .none .none none .none .none 0)) #[]
noncomputable def hd.x366 (_P : Params) : Obj := .mk (.type "code") none (.fields #[.str (Str.ofString "_law_is_let") 734, .str (Str.ofString "_law_is_let") 735, .str (Str.ofString "/claim/cut.py") 736, .int 200 0, .int 2 0, .int 0 0, .int 0 0, .int 3 0, .ref 363, .bool true, .int 181 0, .ref 364, .none, .none, .none, .ref 365, .int 737 0, .int 200 0, .str (Str.ofString "/claim/cut.py") 738]) #[]
noncomputable def hd.x367 (_P : Params) : Obj := .mk (.type "function") none (.func (.mk (Str.ofString "_law_is_let") (Str.ofString "_law_is_let") hd.f32.1 (.stmts hd.f32.2.1) hd.f32.2.2 3 [] .none .none .none (.str (Str.ofString "law_nz0252_01") 684) none (.ref 366) .none 0)) #[]
noncomputable def hd.x368 (_P : Params) : Obj := .mk (.type "tuple") none (.seq #[]) #[]
noncomputable def hd.x369 (_P : Params) : Obj := .mk .none none (.fields #[]) #[]
noncomputable def hd.x370 (_P : Params) : Obj := .mk .none none (.func (.mk (Str.ofString "_law_head") (Str.ofString "_law_head") hd.f33.1 (.stmts hd.f33.2.1) hd.f33.2.2 0 [] .none .none .none .none none .none .none 0)) #[]
noncomputable def hd.x371 (_P : Params) : Obj := .mk (.type "code") none (.fields #[.str (Str.ofString "_law_head") 740, .str (Str.ofString "_law_head") 741, .str (Str.ofString "/claim/cut.py") 742, .int 210 0, .int 2 0, .int 0 0, .int 0 0, .int 3 0, .ref 368, .bool true, .int 181 0, .ref 369, .none, .none, .none, .ref 370, .int 743 0, .int 210 0, .str (Str.ofString "/claim/cut.py") 744]) #[]
noncomputable def hd.x372 (_P : Params) : Obj := .mk (.type "function") none (.func (.mk (Str.ofString "_law_head") (Str.ofString "_law_head") hd.f33.1 (.stmts hd.f33.2.1) hd.f33.2.2 3 [] .none .none .none (.str (Str.ofString "law_nz0252_01") 684) none (.ref 371) .none 0)) #[]
noncomputable def hd.x373 (_P : Params) : Obj := .mk (.type "tuple") none (.seq #[]) #[]
noncomputable def hd.x374 (_P : Params) : Obj := .mk .none none (.fields #[]) #[]
noncomputable def hd.x375 (_P : Params) : Obj := .mk .none none (.func (.mk (Str.ofString "_law_rows") (Str.ofString "_law_rows") hd.f34.1 (.stmts hd.f34.2.1) hd.f34.2.2 0 [] .none .none .none .none none .none .none 0)) #[]
noncomputable def hd.x376 (_P : Params) : Obj := .mk (.type "code") none (.fields #[.str (Str.ofString "_law_rows") 746, .str (Str.ofString "_law_rows") 747, .str (Str.ofString "/claim/cut.py") 748, .int 213 0, .int 1 0, .int 0 0, .int 0 0, .int 3 0, .ref 373, .bool true, .int 181 0, .ref 374, .none, .none, .none, .ref 375, .int 749 0, .int 213 0, .str (Str.ofString "/claim/cut.py") 750]) #[]
noncomputable def hd.x377 (_P : Params) : Obj := .mk (.type "function") none (.func (.mk (Str.ofString "_law_rows") (Str.ofString "_law_rows") hd.f34.1 (.stmts hd.f34.2.1) hd.f34.2.2 3 [] .none .none .none (.str (Str.ofString "law_nz0252_01") 684) none (.ref 376) .none 0)) #[]
noncomputable def hd.x378 (_P : Params) : Obj := .mk (.type "tuple") none (.seq #[]) #[]
noncomputable def hd.x379 (_P : Params) : Obj := .mk .none none (.fields #[]) #[]
noncomputable def hd.x380 (_P : Params) : Obj := .mk (.type "tuple") none (.seq #[.str (Str.ofString "frame") 755, .str (Str.ofString "first") 756, .str (Str.ofString "members") 757, .str (Str.ofString "side") 758, .str (Str.ofString "again") 759]) #[]
noncomputable def hd.x381 (_P : Params) : Obj := .mk (.type "tuple") none (.seq #[]) #[]
noncomputable def hd.x382 (_P : Params) : Obj := .mk .none none (.func (.mk (Str.ofString "_law_frame_right") (Str.ofString "_law_frame_right") hd.f35.1 (.stmts hd.f35.2.1) hd.f35.2.2 0 [] .none .none .none .none none .none .none 0)) #[]
noncomputable def hd.x383 (_P : Params) : Obj := .mk (.type "code") none (.fields #[.str (Str.ofString "_law_frame_right") 752, .str (Str.ofString "_law_frame_right") 753, .str (Str.ofString "/claim/cut.py") 754, .int 215 0, .int 4 0, .int 0 0, .int 0 0, .int 3 0, .ref 378, .bool true, .int 181 0, .ref 379, .none, .ref 380, .ref 381, .ref 382, .int 760 0, .int 215 0, .str (Str.ofString "/claim/cut.py") 761]) #[]
noncomputable def hd.x384 (_P : Params) : Obj := .mk (.type "function") none (.func (.mk (Str.ofString "_law_frame_right") (Str.ofString "_law_frame_right") hd.f35.1 (.stmts hd.f35.2.1) hd.f35.2.2 3 [] .none .none .none (.str (Str.ofString "law_nz0252_01") 684) none (.ref 383) .none 0)) #[]
noncomputable def hd.x385 (_P : Params) : Obj := .mk (.type "tuple") none (.seq #[]) #[]
noncomputable def hd.x386 (_P : Params) : Obj := .mk .none none (.fields #[]) #[]
noncomputable def hd.x387 (_P : Params) : Obj := .mk .none none (.func (.mk (Str.ofString "_law_scan_rows") (Str.ofString "_law_scan_rows") hd.f36.1 (.stmts hd.f36.2.1) hd.f36.2.2 0 [] .none .none .none .none none .none .none 0)) #[]
noncomputable def hd.x388 (_P : Params) : Obj := .mk (.type "code") none (.fields #[.str (Str.ofString "_law_scan_rows") 763, .str (Str.ofString "_law_scan_rows") 764, .str (Str.ofString "/claim/cut.py") 765, .int 222 0, .int 2 0, .int 0 0, .int 0 0, .int 3 0, .ref 385, .bool true, .int 181 0, .ref 386, .none, .none, .none, .ref 387, .int 766 0, .int 222 0, .str (Str.ofString "/claim/cut.py") 767]) #[]
noncomputable def hd.x389 (_P : Params) : Obj := .mk (.type "function") none (.func (.mk (Str.ofString "_law_scan_rows") (Str.ofString "_law_scan_rows") hd.f36.1 (.stmts hd.f36.2.1) hd.f36.2.2 3 [] .none .none .none (.str (Str.ofString "law_nz0252_01") 684) none (.ref 388) .none 0)) #[]
noncomputable def hd.x390 (_P : Params) : Obj := .mk (.type "tuple") none (.seq #[]) #[]
noncomputable def hd.x391 (_P : Params) : Obj := .mk .none none (.fields #[]) #[]
noncomputable def hd.x392 (_P : Params) : Obj := .mk (.type "tuple") none (.seq #[.str (Str.ofString "rows") 772]) #[]
noncomputable def hd.x393 (_P : Params) : Obj := .mk (.type "tuple") none (.seq #[]) #[]
noncomputable def hd.x394 (_P : Params) : Obj := .mk .none none (.func (.mk (Str.ofString "_law_scan_head") (Str.ofString "_law_scan_head") hd.f37.1 (.stmts hd.f37.2.1) hd.f37.2.2 0 [] .none .none .none .none none .none .none 0)) #[]
noncomputable def hd.x395 (_P : Params) : Obj := .mk (.type "code") none (.fields #[.str (Str.ofString "_law_scan_head") 769, .str (Str.ofString "_law_scan_head") 770, .str (Str.ofString "/claim/cut.py") 771, .int 226 0, .int 1 0, .int 0 0, .int 0 0, .int 3 0, .ref 390, .bool true, .int 181 0, .ref 391, .none, .ref 392, .ref 393, .ref 394, .int 773 0, .int 226 0, .str (Str.ofString "/claim/cut.py") 774]) #[]
noncomputable def hd.x396 (_P : Params) : Obj := .mk (.type "function") none (.func (.mk (Str.ofString "_law_scan_head") (Str.ofString "_law_scan_head") hd.f37.1 (.stmts hd.f37.2.1) hd.f37.2.2 3 [] .none .none .none (.str (Str.ofString "law_nz0252_01") 684) none (.ref 395) .none 0)) #[]
noncomputable def hd.x397 (_P : Params) : Obj := .mk (.type "tuple") none (.seq #[]) #[]
noncomputable def hd.x398 (_P : Params) : Obj := .mk .none none (.fields #[]) #[]
noncomputable def hd.x399 (_P : Params) : Obj := .mk (.type "tuple") none (.seq #[.str (Str.ofString "head") 779]) #[]
noncomputable def hd.x400 (_P : Params) : Obj := .mk (.type "tuple") none (.seq #[]) #[]
noncomputable def hd.x401 (_P : Params) : Obj := .mk .none none (.func (.mk (Str.ofString "_law_told") (Str.ofString "_law_told") hd.f38.1 (.stmts hd.f38.2.1) hd.f38.2.2 0 [] .none .none .none .none none .none .none 0)) #[]
noncomputable def hd.x402 (_P : Params) : Obj := .mk (.type "code") none (.fields #[.str (Str.ofString "_law_told") 776, .str (Str.ofString "_law_told") 777, .str (Str.ofString "/claim/cut.py") 778, .int 228 0, .int 1 0, .int 0 0, .int 0 0, .int 3 0, .ref 397, .bool true, .int 181 0, .ref 398, .none, .ref 399, .ref 400, .ref 401, .int 780 0, .int 228 0, .str (Str.ofString "/claim/cut.py") 781]) #[]
noncomputable def hd.x403 (_P : Params) : Obj := .mk (.type "function") none (.func (.mk (Str.ofString "_law_told") (Str.ofString "_law_told") hd.f38.1 (.stmts hd.f38.2.1) hd.f38.2.2 3 [] .none .none .none (.str (Str.ofString "law_nz0252_01") 684) none (.ref 402) .none 0)) #[]
noncomputable def hd.x404 (_P : Params) : Obj := .mk (.type "tuple") none (.seq #[]) #[]
noncomputable def hd.x405 (_P : Params) : Obj := .mk .none none (.fields #[]) #[]
noncomputable def hd.x406 (_P : Params) : Obj := .mk .none none (.func (.mk (Str.ofString "_law_scan_right") (Str.ofString "_law_scan_right") hd.f39.1 (.stmts hd.f39.2.1) hd.f39.2.2 0 [] .none .none .none .none none .none .none 0)) #[]
noncomputable def hd.x407 (_P : Params) : Obj := .mk (.type "code") none (.fields #[.str (Str.ofString "_law_scan_right") 783, .str (Str.ofString "_law_scan_right") 784, .str (Str.ofString "/claim/cut.py") 785, .int 230 0, .int 3 0, .int 0 0, .int 0 0, .int 3 0, .ref 404, .bool true, .int 181 0, .ref 405, .none, .none, .none, .ref 406, .int 786 0, .int 230 0, .str (Str.ofString "/claim/cut.py") 787]) #[]
noncomputable def hd.x408 (_P : Params) : Obj := .mk (.type "function") none (.func (.mk (Str.ofString "_law_scan_right") (Str.ofString "_law_scan_right") hd.f39.1 (.stmts hd.f39.2.1) hd.f39.2.2 3 [] .none .none .none (.str (Str.ofString "law_nz0252_01") 684) none (.ref 407) .none 0)) #[]
noncomputable def hd.x409 (_P : Params) : Obj := .mk (.type "tuple") none (.seq #[]) #[]
noncomputable def hd.x410 (_P : Params) : Obj := .mk .none none (.fields #[]) #[]
noncomputable def hd.x411 (_P : Params) : Obj := .mk (.type "tuple") none (.seq #[.str (Str.ofString "script") 792, .str (Str.ofString "k") 793, .str (Str.ofString "source") 794, .str (Str.ofString "first") 795, .str (Str.ofString "members") 796, .str (Str.ofString "side") 797, .str (Str.ofString "frame") 798]) #[]
noncomputable def hd.x412 (_P : Params) : Obj := .mk (.type "tuple") none (.seq #[]) #[]
noncomputable def hd.x413 (_P : Params) : Obj := .mk .none none (.func (.mk (Str.ofString "law") (Str.ofString "law") hd.f40.1 (.stmts hd.f40.2.1) hd.f40.2.2 0 [] .none .none .none .none none .none .none 0)) #[]
noncomputable def hd.x414 (_P : Params) : Obj := .mk (.type "code") none (.fields #[.str (Str.ofString "law") 789, .str (Str.ofString "law") 790, .str (Str.ofString "/claim/cut.py") 791, .int 245 0, .int 1 0, .int 0 0, .int 0 0, .int 3 0, .ref 409, .bool true, .int 181 0, .ref 410, .none, .ref 411, .ref 412, .ref 413, .int 799 0, .int 245 0, .str (Str.ofString "/claim/cut.py") 800]) #[]
noncomputable def hd.x415 (_P : Params) : Obj := .mk (.type "function") none (.func (.mk (Str.ofString "law") (Str.ofString "law") hd.f40.1 (.stmts hd.f40.2.1) hd.f40.2.2 3 [] .none .none .none (.str (Str.ofString "law_nz0252_01") 684) none (.ref 414) .none 0)) #[]
noncomputable def hd.t_t1 (P : Params) : BT := (.node (boot_o_0 P) (.node (boot_o_1 P) (.node (hd.x3 P) (.node (boot_o_7 P) (.node (hd.x15 P) (.node (hd.x31 P) (.node (hd.x63 P) .nil .nil) .nil) (.node (hd.x47 P) .nil .nil)) (.node (hd.x23 P) (.node (hd.x39 P) (.node (hd.x71 P) .nil .nil) .nil) (.node (hd.x55 P) .nil .nil))) (.node (hd.t_o43 P) (.node (hd.x19 P) (.node (hd.x35 P) (.node (hd.x67 P) .nil .nil) .nil) (.node (hd.x51 P) .nil .nil)) (.node (hd.x27 P) (.node (hd.x43 P) (.node (hd.x75 P) .nil .nil) .nil) (.node (hd.x59 P) .nil .nil)))) (.node (boot_o_5 P) (.node (boot_o_9 P) (.node (hd.x17 P) (.node (hd.x33 P) (.node (hd.x65 P) .nil .nil) .nil) (.node (hd.x49 P) .nil .nil)) (.node (hd.x25 P) (.node (hd.x41 P) (.node (hd.x73 P) .nil .nil) .nil) (.node (hd.x57 P) .nil .nil))) (.node (hd.t_o45 P) (.node (hd.x21 P) (.node (hd.x37 P) (.node (hd.x69 P) .nil .nil) .nil) (.node (hd.x53 P) .nil .nil)) (.node (hd.x29 P) (.node (hd.x45 P) (.node (hd.x77 P) .nil .nil) .nil) (.node (hd.x61 P) .nil .nil))))) (.node (hd.x2 P) (.node (boot_o_4 P) (.node (boot_o_8 P) (.node (hd.x16 P) (.node (hd.x32 P) (.node (hd.x64 P) .nil .nil) .nil) (.node (hd.x48 P) .nil .nil)) (.node (hd.x24 P) (.node (hd.x40 P) (.node (hd.x72 P) .nil .nil) .nil) (.node (hd.x56 P) .nil .nil))) (.node (hd.x12 P) (.node (hd.x20 P) (.node (hd.x36 P) (.node (hd.x68 P) .nil .nil) .nil) (.node (hd.x52 P) .nil .nil)) (.node (hd.x28 P) (.node (hd.x44 P) (.node (hd.x76 P) .nil .nil) .nil) (.node (hd.x60 P) .nil .nil)))) (.node (boot_o_6 P) (.node (boot_o_10 P) (.node (hd.x18 P) (.node (hd.x34 P) (.node (hd.x66 P) .nil .nil) .nil) (.node (hd.x50 P) .nil .nil)) (.node (hd.x26 P) (.node (hd.x42 P) (.node (hd.x74 P) .nil .nil) .nil) (.node (hd.x58 P) .nil .nil))) (.node (hd.t_o46 P) (.node (hd.x22 P) (.node (hd.x38 P) (.node (hd.x70 P) .nil .nil) .nil) (.node (hd.x54 P) .nil .nil)) (.node (hd.x30 P) (.node (hd.x46 P) (.node (hd.x78 P) .nil .nil) .nil) (.node (hd.x62 P) .nil .nil))))))
noncomputable def hd.t_s1 (w : World) (os : OsState) : SharedT := ⟨hd.t_t1 w.params, 79, {}, ⟨[]⟩, boot_drawn, 296, os⟩
def hd.t_q1 : Pos := ⟨15, 0, 15, 5⟩
theorem hd.t_run1 (w : World) (os : OsState) : segRunT treeTable PySem.Challenge.pw_nz0252_01 w 11 (some (.ref 6)) 1 790 (hd.t_sb w os) (piecesOf ((behindTheImports PySem.Challenge.pw_nz0252_01).take 7) hd.t_env hd.t_c hd.t_p0 [topFrame hd.t_p0]) = some (.next, hd.t_s1 w os, hd.t_c, hd.t_q1) := by rw [PySem.W.Fast.te10110043849684766642, PySem.W.Fast.te14364793385576792824]; kernel_rfl
noncomputable def hd.t_t2 (P : Params) : BT := (.node (boot_o_0 P) (.node (boot_o_1 P) (.node (hd.x3_1 P) (.node (boot_o_7 P) (.node (hd.x15 P) (.node (hd.x31 P) (.node (hd.x63 P) (.node (hd.x127 P) .nil .nil) .nil) (.node (hd.x95 P) (.node (hd.x159 P) .nil .nil) .nil)) (.node (hd.x47 P) (.node (hd.x79 P) (.node (hd.x143 P) .nil .nil) .nil) (.node (hd.x111 P) .nil .nil))) (.node (hd.x23 P) (.node (hd.x39 P) (.node (hd.x71 P) (.node (hd.x135 P) .nil .nil) .nil) (.node (hd.x103 P) (.node (hd.x167 P) .nil .nil) .nil)) (.node (hd.x55 P) (.node (hd.x87 P) (.node (hd.x151 P) .nil .nil) .nil) (.node (hd.x119 P) .nil .nil)))) (.node (hd.t_o43 P) (.node (hd.x19 P) (.node (hd.x35 P) (.node (hd.x67 P) (.node (hd.x131 P) .nil .nil) .nil) (.node (hd.x99 P) (.node (hd.x163 P) .nil .nil) .nil)) (.node (hd.x51 P) (.node (hd.x83 P) (.node (hd.x147 P) .nil .nil) .nil) (.node (hd.x115 P) .nil .nil))) (.node (hd.x27 P) (.node (hd.x43 P) (.node (hd.x75 P) (.node (hd.x139 P) .nil .nil) .nil) (.node (hd.x107 P) (.node (hd.x171 P) .nil .nil) .nil)) (.node (hd.x59 P) (.node (hd.x91 P) (.node (hd.x155 P) .nil .nil) .nil) (.node (hd.x123 P) .nil .nil))))) (.node (boot_o_5 P) (.node (boot_o_9 P) (.node (hd.x17 P) (.node (hd.x33 P) (.node (hd.x65 P) (.node (hd.x129 P) .nil .nil) .nil) (.node (hd.x97 P) (.node (hd.x161 P) .nil .nil) .nil)) (.node (hd.x49 P) (.node (hd.x81 P) (.node (hd.x145 P) .nil .nil) .nil) (.node (hd.x113 P) .nil .nil))) (.node (hd.x25 P) (.node (hd.x41 P) (.node (hd.x73 P) (.node (hd.x137 P) .nil .nil) .nil) (.node (hd.x105 P) (.node (hd.x169 P) .nil .nil) .nil)) (.node (hd.x57 P) (.node (hd.x89 P) (.node (hd.x153 P) .nil .nil) .nil) (.node (hd.x121 P) .nil .nil)))) (.node (hd.t_o45 P) (.node (hd.x21 P) (.node (hd.x37 P) (.node (hd.x69 P) (.node (hd.x133 P) .nil .nil) .nil) (.node (hd.x101 P) (.node (hd.x165 P) .nil .nil) .nil)) (.node (hd.x53 P) (.node (hd.x85 P) (.node (hd.x149 P) .nil .nil) .nil) (.node (hd.x117 P) .nil .nil))) (.node (hd.x29 P) (.node (hd.x45 P) (.node (hd.x77 P) (.node (hd.x141 P) .nil .nil) .nil) (.node (hd.x109 P) .nil .nil)) (.node (hd.x61 P) (.node (hd.x93 P) (.node (hd.x157 P) .nil .nil) .nil) (.node (hd.x125 P) .nil .nil)))))) (.node (hd.x2 P) (.node (boot_o_4 P) (.node (boot_o_8 P) (.node (hd.x16 P) (.node (hd.x32 P) (.node (hd.x64 P) (.node (hd.x128 P) .nil .nil) .nil) (.node (hd.x96 P) (.node (hd.x160 P) .nil .nil) .nil)) (.node (hd.x48 P) (.node (hd.x80 P) (.node (hd.x144 P) .nil .nil) .nil) (.node (hd.x112 P) .nil .nil))) (.node (hd.x24 P) (.node (hd.x40 P) (.node (hd.x72 P) (.node (hd.x136 P) .nil .nil) .nil) (.node (hd.x104 P) (.node (hd.x168 P) .nil .nil) .nil)) (.node (hd.x56 P) (.node (hd.x88 P) (.node (hd.x152 P) .nil .nil) .nil) (.node (hd.x120 P) .nil .nil)))) (.node (hd.x12_1 P) (.node (hd.x20 P) (.node (hd.x36 P) (.node (hd.x68 P) (.node (hd.x132 P) .nil .nil) .nil) (.node (hd.x100 P) (.node (hd.x164 P) .nil .nil) .nil)) (.node (hd.x52 P) (.node (hd.x84 P) (.node (hd.x148 P) .nil .nil) .nil) (.node (hd.x116 P) .nil .nil))) (.node (hd.x28 P) (.node (hd.x44 P) (.node (hd.x76 P) (.node (hd.x140 P) .nil .nil) .nil) (.node (hd.x108 P) (.node (hd.x172 P) .nil .nil) .nil)) (.node (hd.x60 P) (.node (hd.x92 P) (.node (hd.x156 P) .nil .nil) .nil) (.node (hd.x124 P) .nil .nil))))) (.node (boot_o_6 P) (.node (boot_o_10 P) (.node (hd.x18 P) (.node (hd.x34 P) (.node (hd.x66 P) (.node (hd.x130 P) .nil .nil) .nil) (.node (hd.x98 P) (.node (hd.x162 P) .nil .nil) .nil)) (.node (hd.x50 P) (.node (hd.x82 P) (.node (hd.x146 P) .nil .nil) .nil) (.node (hd.x114 P) .nil .nil))) (.node (hd.x26 P) (.node (hd.x42 P) (.node (hd.x74 P) (.node (hd.x138 P) .nil .nil) .nil) (.node (hd.x106 P) (.node (hd.x170 P) .nil .nil) .nil)) (.node (hd.x58 P) (.node (hd.x90 P) (.node (hd.x154 P) .nil .nil) .nil) (.node (hd.x122 P) .nil .nil)))) (.node (hd.t_o46 P) (.node (hd.x22 P) (.node (hd.x38 P) (.node (hd.x70 P) (.node (hd.x134 P) .nil .nil) .nil) (.node (hd.x102 P) (.node (hd.x166 P) .nil .nil) .nil)) (.node (hd.x54 P) (.node (hd.x86 P) (.node (hd.x150 P) .nil .nil) .nil) (.node (hd.x118 P) .nil .nil))) (.node (hd.x30 P) (.node (hd.x46 P) (.node (hd.x78 P) (.node (hd.x142 P) .nil .nil) .nil) (.node (hd.x110 P) .nil .nil)) (.node (hd.x62 P) (.node (hd.x94 P) (.node (hd.x158 P) .nil .nil) .nil) (.node (hd.x126 P) .nil .nil)))))))
noncomputable def hd.t_s2 (w : World) (os : OsState) : SharedT := ⟨hd.t_t2 w.params, 173, {}, ⟨[]⟩, boot_drawn, 440, os⟩
def hd.t_q2 : Pos := ⟨29, 0, 61, 16⟩
theorem hd.t_run2 (w : World) (os : OsState) : segRunT treeTable PySem.Challenge.pw_nz0252_01 w 11 (some (.ref 6)) 1 760 (hd.t_s1 w os) (piecesOf (((behindTheImports PySem.Challenge.pw_nz0252_01).drop 7).take 7) hd.t_env hd.t_c hd.t_q1 [topFrame hd.t_p0]) = some (.next, hd.t_s2 w os, hd.t_c, hd.t_q2) := by rw [PySem.W.Fast.te10110043849684766642, PySem.W.Fast.te14364793385576792824]; kernel_rfl
noncomputable def hd.t_t3 (P : Params) : BT := (.node (boot_o_0 P) (.node (boot_o_1 P) (.node (hd.x3_2 P) (.node (boot_o_7 P) (.node (hd.x15 P) (.node (hd.x31 P) (.node (hd.x63 P) (.node (hd.x127 P) .nil .nil) (.node (hd.x191 P) .nil .nil)) (.node (hd.x95 P) (.node (hd.x159 P) .nil .nil) (.node (hd.x223 P) .nil .nil))) (.node (hd.x47 P) (.node (hd.x79 P) (.node (hd.x143 P) .nil .nil) (.node (hd.x207 P) .nil .nil)) (.node (hd.x111 P) (.node (hd.x175 P) .nil .nil) (.node (hd.x239 P) .nil .nil)))) (.node (hd.x23 P) (.node (hd.x39 P) (.node (hd.x71 P) (.node (hd.x135 P) .nil .nil) (.node (hd.x199 P) .nil .nil)) (.node (hd.x103 P) (.node (hd.x167 P) .nil .nil) (.node (hd.x231 P) .nil .nil))) (.node (hd.x55 P) (.node (hd.x87 P) (.node (hd.x151 P) .nil .nil) (.node (hd.x215 P) .nil .nil)) (.node (hd.x119 P) (.node (hd.x183 P) .nil .nil) (.node (hd.x247 P) .nil .nil))))) (.node (hd.t_o43 P) (.node (hd.x19 P) (.node (hd.x35 P) (.node (hd.x67 P) (.node (hd.x131 P) .nil .nil) (.node (hd.x195 P) .nil .nil)) (.node (hd.x99 P) (.node (hd.x163 P) .nil .nil) (.node (hd.x227 P) .nil .nil))) (.node (hd.x51 P) (.node (hd.x83 P) (.node (hd.x147 P) .nil .nil) (.node (hd.x211 P) .nil .nil)) (.node (hd.x115 P) (.node (hd.x179 P) .nil .nil) (.node (hd.x243 P) .nil .nil)))) (.node (hd.x27 P) (.node (hd.x43 P) (.node (hd.x75 P) (.node (hd.x139 P) .nil .nil) (.node (hd.x203 P) .nil .nil)) (.node (hd.x107 P) (.node (hd.x171 P) .nil .nil) (.node (hd.x235 P) .nil .nil))) (.node (hd.x59 P) (.node (hd.x91 P) (.node (hd.x155 P) .nil .nil) (.node (hd.x219 P) .nil .nil)) (.node (hd.x123 P) (.node (hd.x187 P) .nil .nil) .nil))))) (.node (boot_o_5 P) (.node (boot_o_9 P) (.node (hd.x17 P) (.node (hd.x33 P) (.node (hd.x65 P) (.node (hd.x129 P) .nil .nil) (.node (hd.x193 P) .nil .nil)) (.node (hd.x97 P) (.node (hd.x161 P) .nil .nil) (.node (hd.x225 P) .nil .nil))) (.node (hd.x49 P) (.node (hd.x81 P) (.node (hd.x145 P) .nil .nil) (.node (hd.x209 P) .nil .nil)) (.node (hd.x113 P) (.node (hd.x177 P) .nil .nil) (.node (hd.x241 P) .nil .nil)))) (.node (hd.x25 P) (.node (hd.x41 P) (.node (hd.x73 P) (.node (hd.x137 P) .nil .nil) (.node (hd.x201 P) .nil .nil)) (.node (hd.x105 P) (.node (hd.x169 P) .nil .nil) (.node (hd.x233 P) .nil .nil))) (.node (hd.x57 P) (.node (hd.x89 P) (.node (hd.x153 P) .nil .nil) (.node (hd.x217 P) .nil .nil)) (.node (hd.x121 P) (.node (hd.x185 P) .nil .nil) (.node (hd.x249 P) .nil .nil))))) (.node (hd.t_o45 P) (.node (hd.x21 P) (.node (hd.x37 P) (.node (hd.x69 P) (.node (hd.x133 P) .nil .nil) (.node (hd.x197 P) .nil .nil)) (.node (hd.x101 P) (.node (hd.x165 P) .nil .nil) (.node (hd.x229 P) .nil .nil))) (.node (hd.x53 P) (.node (hd.x85 P) (.node (hd.x149 P) .nil .nil) (.node (hd.x213 P) .nil .nil)) (.node (hd.x117 P) (.node (hd.x181 P) .nil .nil) (.node (hd.x245 P) .nil .nil)))) (.node (hd.x29 P) (.node (hd.x45 P) (.node (hd.x77 P) (.node (hd.x141 P) .nil .nil) (.node (hd.x205 P) .nil .nil)) (.node (hd.x109 P) (.node (hd.x173 P) .nil .nil) (.node (hd.x237 P) .nil .nil))) (.node (hd.x61 P) (.node (hd.x93 P) (.node (hd.x157 P) .nil .nil) (.node (hd.x221 P) .nil .nil)) (.node (hd.x125 P) (.node (hd.x189 P) .nil .nil) .nil)))))) (.node (hd.x2 P) (.node (boot_o_4 P) (.node (boot_o_8 P) (.node (hd.x16 P) (.node (hd.x32 P) (.node (hd.x64 P) (.node (hd.x128 P) .nil .nil) (.node (hd.x192 P) .nil .nil)) (.node (hd.x96 P) (.node (hd.x160 P) .nil .nil) (.node (hd.x224 P) .nil .nil))) (.node (hd.x48 P) (.node (hd.x80 P) (.node (hd.x144 P) .nil .nil) (.node (hd.x208 P) .nil .nil)) (.node (hd.x112 P) (.node (hd.x176 P) .nil .nil) (.node (hd.x240 P) .nil .nil)))) (.node (hd.x24 P) (.node (hd.x40 P) (.node (hd.x72 P) (.node (hd.x136 P) .nil .nil) (.node (hd.x200 P) .nil .nil)) (.node (hd.x104 P) (.node (hd.x168 P) .nil .nil) (.node (hd.x232 P) .nil .nil))) (.node (hd.x56 P) (.node (hd.x88 P) (.node (hd.x152 P) .nil .nil) (.node (hd.x216 P) .nil .nil)) (.node (hd.x120 P) (.node (hd.x184 P) .nil .nil) (.node (hd.x248 P) .nil .nil))))) (.node (hd.x12_2 P) (.node (hd.x20 P) (.node (hd.x36 P) (.node (hd.x68 P) (.node (hd.x132 P) .nil .nil) (.node (hd.x196 P) .nil .nil)) (.node (hd.x100 P) (.node (hd.x164 P) .nil .nil) (.node (hd.x228 P) .nil .nil))) (.node (hd.x52 P) (.node (hd.x84 P) (.node (hd.x148 P) .nil .nil) (.node (hd.x212 P) .nil .nil)) (.node (hd.x116 P) (.node (hd.x180 P) .nil .nil) (.node (hd.x244 P) .nil .nil)))) (.node (hd.x28 P) (.node (hd.x44 P) (.node (hd.x76 P) (.node (hd.x140 P) .nil .nil) (.node (hd.x204 P) .nil .nil)) (.node (hd.x108 P) (.node (hd.x172 P) .nil .nil) (.node (hd.x236 P) .nil .nil))) (.node (hd.x60 P) (.node (hd.x92 P) (.node (hd.x156 P) .nil .nil) (.node (hd.x220 P) .nil .nil)) (.node (hd.x124 P) (.node (hd.x188 P) .nil .nil) .nil))))) (.node (boot_o_6 P) (.node (boot_o_10 P) (.node (hd.x18 P) (.node (hd.x34 P) (.node (hd.x66 P) (.node (hd.x130 P) .nil .nil) (.node (hd.x194 P) .nil .nil)) (.node (hd.x98 P) (.node (hd.x162 P) .nil .nil) (.node (hd.x226 P) .nil .nil))) (.node (hd.x50 P) (.node (hd.x82 P) (.node (hd.x146 P) .nil .nil) (.node (hd.x210 P) .nil .nil)) (.node (hd.x114 P) (.node (hd.x178 P) .nil .nil) (.node (hd.x242 P) .nil .nil)))) (.node (hd.x26 P) (.node (hd.x42 P) (.node (hd.x74 P) (.node (hd.x138 P) .nil .nil) (.node (hd.x202 P) .nil .nil)) (.node (hd.x106 P) (.node (hd.x170 P) .nil .nil) (.node (hd.x234 P) .nil .nil))) (.node (hd.x58 P) (.node (hd.x90 P) (.node (hd.x154 P) .nil .nil) (.node (hd.x218 P) .nil .nil)) (.node (hd.x122 P) (.node (hd.x186 P) .nil .nil) .nil)))) (.node (hd.t_o46 P) (.node (hd.x22 P) (.node (hd.x38 P) (.node (hd.x70 P) (.node (hd.x134 P) .nil .nil) (.node (hd.x198 P) .nil .nil)) (.node (hd.x102 P) (.node (hd.x166 P) .nil .nil) (.node (hd.x230 P) .nil .nil))) (.node (hd.x54 P) (.node (hd.x86 P) (.node (hd.x150 P) .nil .nil) (.node (hd.x214 P) .nil .nil)) (.node (hd.x118 P) (.node (hd.x182 P) .nil .nil) (.node (hd.x246 P) .nil .nil)))) (.node (hd.x30 P) (.node (hd.x46 P) (.node (hd.x78 P) (.node (hd.x142 P) .nil .nil) (.node (hd.x206 P) .nil .nil)) (.node (hd.x110 P) (.node (hd.x174 P) .nil .nil) (.node (hd.x238 P) .nil .nil))) (.node (hd.x62 P) (.node (hd.x94 P) (.node (hd.x158 P) .nil .nil) (.node (hd.x222 P) .nil .nil)) (.node (hd.x126 P) (.node (hd.x190 P) .nil .nil) .nil)))))))
noncomputable def hd.t_s3 (w : World) (os : OsState) : SharedT := ⟨hd.t_t3 w.params, 250, {}, ⟨[]⟩, boot_drawn, 555, os⟩
def hd.t_q3 : Pos := ⟨105, 0, 112, 36⟩
theorem hd.t_run3 (w : World) (os : OsState) : segRunT treeTable PySem.Challenge.pw_nz0252_01 w 11 (some (.ref 6)) 1 635 (hd.t_s2 w os) (piecesOf (((behindTheImports PySem.Challenge.pw_nz0252_01).drop 14).take 8) hd.t_env hd.t_c hd.t_q2 [topFrame hd.t_p0]) = some (.next, hd.t_s3 w os, hd.t_c, hd.t_q3) := by rw [PySem.W.Fast.te10110043849684766642, PySem.W.Fast.te14364793385576792824]; kernel_rfl
noncomputable def hd.t_t4 (P : Params) : BT := (.node (boot_o_0 P) (.node (boot_o_1 P) (.node (hd.x3_3 P) (.node (boot_o_7 P) (.node (hd.x15 P) (.node (hd.x31 P) (.node (hd.x63 P) (.node (hd.x127 P) (.node (hd.x255 P) .nil .nil) .nil) (.node (hd.x191 P) (.node (hd.x319 P) .nil .nil) .nil)) (.node (hd.x95 P) (.node (hd.x159 P) (.node (hd.x287 P) .nil .nil) .nil) (.node (hd.x223 P) .nil .nil))) (.node (hd.x47 P) (.node (hd.x79 P) (.node (hd.x143 P) (.node (hd.x271 P) .nil .nil) .nil) (.node (hd.x207 P) .nil .nil)) (.node (hd.x111 P) (.node (hd.x175 P) (.node (hd.x303 P) .nil .nil) .nil) (.node (hd.x239 P) .nil .nil)))) (.node (hd.x23 P) (.node (hd.x39 P) (.node (hd.x71 P) (.node (hd.x135 P) (.node (hd.x263 P) .nil .nil) .nil) (.node (hd.x199 P) .nil .nil)) (.node (hd.x103 P) (.node (hd.x167 P) (.node (hd.x295 P) .nil .nil) .nil) (.node (hd.x231 P) .nil .nil))) (.node (hd.x55 P) (.node (hd.x87 P) (.node (hd.x151 P) (.node (hd.x279 P) .nil .nil) .nil) (.node (hd.x215 P) .nil .nil)) (.node (hd.x119 P) (.node (hd.x183 P) (.node (hd.x311 P) .nil .nil) .nil) (.node (hd.x247 P) .nil .nil))))) (.node (hd.t_o43 P) (.node (hd.x19 P) (.node (hd.x35 P) (.node (hd.x67 P) (.node (hd.x131 P) (.node (hd.x259 P) .nil .nil) .nil) (.node (hd.x195 P) .nil .nil)) (.node (hd.x99 P) (.node (hd.x163 P) (.node (hd.x291 P) .nil .nil) .nil) (.node (hd.x227 P) .nil .nil))) (.node (hd.x51 P) (.node (hd.x83 P) (.node (hd.x147 P) (.node (hd.x275 P) .nil .nil) .nil) (.node (hd.x211 P) .nil .nil)) (.node (hd.x115 P) (.node (hd.x179 P) (.node (hd.x307 P) .nil .nil) .nil) (.node (hd.x243 P) .nil .nil)))) (.node (hd.x27 P) (.node (hd.x43 P) (.node (hd.x75 P) (.node (hd.x139 P) (.node (hd.x267 P) .nil .nil) .nil) (.node (hd.x203 P) .nil .nil)) (.node (hd.x107 P) (.node (hd.x171 P) (.node (hd.x299 P) .nil .nil) .nil) (.node (hd.x235 P) .nil .nil))) (.node (hd.x59 P) (.node (hd.x91 P) (.node (hd.x155 P) (.node (hd.x283 P) .nil .nil) .nil) (.node (hd.x219 P) .nil .nil)) (.node (hd.x123 P) (.node (hd.x187 P) (.node (hd.x315 P) .nil .nil) .nil) (.node (hd.x251 P) .nil .nil)))))) (.node (boot_o_5 P) (.node (boot_o_9 P) (.node (hd.x17 P) (.node (hd.x33 P) (.node (hd.x65 P) (.node (hd.x129 P) (.node (hd.x257 P) .nil .nil) .nil) (.node (hd.x193 P) (.node (hd.x321 P) .nil .nil) .nil)) (.node (hd.x97 P) (.node (hd.x161 P) (.node (hd.x289 P) .nil .nil) .nil) (.node (hd.x225 P) .nil .nil))) (.node (hd.x49 P) (.node (hd.x81 P) (.node (hd.x145 P) (.node (hd.x273 P) .nil .nil) .nil) (.node (hd.x209 P) .nil .nil)) (.node (hd.x113 P) (.node (hd.x177 P) (.node (hd.x305 P) .nil .nil) .nil) (.node (hd.x241 P) .nil .nil)))) (.node (hd.x25 P) (.node (hd.x41 P) (.node (hd.x73 P) (.node (hd.x137 P) (.node (hd.x265 P) .nil .nil) .nil) (.node (hd.x201 P) .nil .nil)) (.node (hd.x105 P) (.node (hd.x169 P) (.node (hd.x297 P) .nil .nil) .nil) (.node (hd.x233 P) .nil .nil))) (.node (hd.x57 P) (.node (hd.x89 P) (.node (hd.x153 P) (.node (hd.x281 P) .nil .nil) .nil) (.node (hd.x217 P) .nil .nil)) (.node (hd.x121 P) (.node (hd.x185 P) (.node (hd.x313 P) .nil .nil) .nil) (.node (hd.x249 P) .nil .nil))))) (.node (hd.t_o45 P) (.node (hd.x21 P) (.node (hd.x37 P) (.node (hd.x69 P) (.node (hd.x133 P) (.node (hd.x261 P) .nil .nil) .nil) (.node (hd.x197 P) .nil .nil)) (.node (hd.x101 P) (.node (hd.x165 P) (.node (hd.x293 P) .nil .nil) .nil) (.node (hd.x229 P) .nil .nil))) (.node (hd.x53 P) (.node (hd.x85 P) (.node (hd.x149 P) (.node (hd.x277 P) .nil .nil) .nil) (.node (hd.x213 P) .nil .nil)) (.node (hd.x117 P) (.node (hd.x181 P) (.node (hd.x309 P) .nil .nil) .nil) (.node (hd.x245 P) .nil .nil)))) (.node (hd.x29 P) (.node (hd.x45 P) (.node (hd.x77 P) (.node (hd.x141 P) (.node (hd.x269 P) .nil .nil) .nil) (.node (hd.x205 P) .nil .nil)) (.node (hd.x109 P) (.node (hd.x173 P) (.node (hd.x301 P) .nil .nil) .nil) (.node (hd.x237 P) .nil .nil))) (.node (hd.x61 P) (.node (hd.x93 P) (.node (hd.x157 P) (.node (hd.x285 P) .nil .nil) .nil) (.node (hd.x221 P) .nil .nil)) (.node (hd.x125 P) (.node (hd.x189 P) (.node (hd.x317 P) .nil .nil) .nil) (.node (hd.x253 P) .nil .nil))))))) (.node (hd.x2 P) (.node (boot_o_4 P) (.node (boot_o_8 P) (.node (hd.x16 P) (.node (hd.x32 P) (.node (hd.x64 P) (.node (hd.x128 P) (.node (hd.x256 P) .nil .nil) .nil) (.node (hd.x192 P) (.node (hd.x320 P) .nil .nil) .nil)) (.node (hd.x96 P) (.node (hd.x160 P) (.node (hd.x288 P) .nil .nil) .nil) (.node (hd.x224 P) .nil .nil))) (.node (hd.x48 P) (.node (hd.x80 P) (.node (hd.x144 P) (.node (hd.x272 P) .nil .nil) .nil) (.node (hd.x208 P) .nil .nil)) (.node (hd.x112 P) (.node (hd.x176 P) (.node (hd.x304 P) .nil .nil) .nil) (.node (hd.x240 P) .nil .nil)))) (.node (hd.x24 P) (.node (hd.x40 P) (.node (hd.x72 P) (.node (hd.x136 P) (.node (hd.x264 P) .nil .nil) .nil) (.node (hd.x200 P) .nil .nil)) (.node (hd.x104 P) (.node (hd.x168 P) (.node (hd.x296 P) .nil .nil) .nil) (.node (hd.x232 P) .nil .nil))) (.node (hd.x56 P) (.node (hd.x88 P) (.node (hd.x152 P) (.node (hd.x280 P) .nil .nil) .nil) (.node (hd.x216 P) .nil .nil)) (.node (hd.x120 P) (.node (hd.x184 P) (.node (hd.x312 P) .nil .nil) .nil) (.node (hd.x248 P) .nil .nil))))) (.node (hd.x12_3 P) (.node (hd.x20 P) (.node (hd.x36 P) (.node (hd.x68 P) (.node (hd.x132 P) (.node (hd.x260 P) .nil .nil) .nil) (.node (hd.x196 P) .nil .nil)) (.node (hd.x100 P) (.node (hd.x164 P) (.node (hd.x292 P) .nil .nil) .nil) (.node (hd.x228 P) .nil .nil))) (.node (hd.x52 P) (.node (hd.x84 P) (.node (hd.x148 P) (.node (hd.x276 P) .nil .nil) .nil) (.node (hd.x212 P) .nil .nil)) (.node (hd.x116 P) (.node (hd.x180 P) (.node (hd.x308 P) .nil .nil) .nil) (.node (hd.x244 P) .nil .nil)))) (.node (hd.x28 P) (.node (hd.x44 P) (.node (hd.x76 P) (.node (hd.x140 P) (.node (hd.x268 P) .nil .nil) .nil) (.node (hd.x204 P) .nil .nil)) (.node (hd.x108 P) (.node (hd.x172 P) (.node (hd.x300 P) .nil .nil) .nil) (.node (hd.x236 P) .nil .nil))) (.node (hd.x60 P) (.node (hd.x92 P) (.node (hd.x156 P) (.node (hd.x284 P) .nil .nil) .nil) (.node (hd.x220 P) .nil .nil)) (.node (hd.x124 P) (.node (hd.x188 P) (.node (hd.x316 P) .nil .nil) .nil) (.node (hd.x252 P) .nil .nil)))))) (.node (boot_o_6 P) (.node (boot_o_10 P) (.node (hd.x18 P) (.node (hd.x34 P) (.node (hd.x66 P) (.node (hd.x130 P) (.node (hd.x258 P) .nil .nil) .nil) (.node (hd.x194 P) (.node (hd.x322 P) .nil .nil) .nil)) (.node (hd.x98 P) (.node (hd.x162 P) (.node (hd.x290 P) .nil .nil) .nil) (.node (hd.x226 P) .nil .nil))) (.node (hd.x50 P) (.node (hd.x82 P) (.node (hd.x146 P) (.node (hd.x274 P) .nil .nil) .nil) (.node (hd.x210 P) .nil .nil)) (.node (hd.x114 P) (.node (hd.x178 P) (.node (hd.x306 P) .nil .nil) .nil) (.node (hd.x242 P) .nil .nil)))) (.node (hd.x26 P) (.node (hd.x42 P) (.node (hd.x74 P) (.node (hd.x138 P) (.node (hd.x266 P) .nil .nil) .nil) (.node (hd.x202 P) .nil .nil)) (.node (hd.x106 P) (.node (hd.x170 P) (.node (hd.x298 P) .nil .nil) .nil) (.node (hd.x234 P) .nil .nil))) (.node (hd.x58 P) (.node (hd.x90 P) (.node (hd.x154 P) (.node (hd.x282 P) .nil .nil) .nil) (.node (hd.x218 P) .nil .nil)) (.node (hd.x122 P) (.node (hd.x186 P) (.node (hd.x314 P) .nil .nil) .nil) (.node (hd.x250 P) .nil .nil))))) (.node (hd.t_o46 P) (.node (hd.x22 P) (.node (hd.x38 P) (.node (hd.x70 P) (.node (hd.x134 P) (.node (hd.x262 P) .nil .nil) .nil) (.node (hd.x198 P) .nil .nil)) (.node (hd.x102 P) (.node (hd.x166 P) (.node (hd.x294 P) .nil .nil) .nil) (.node (hd.x230 P) .nil .nil))) (.node (hd.x54 P) (.node (hd.x86 P) (.node (hd.x150 P) (.node (hd.x278 P) .nil .nil) .nil) (.node (hd.x214 P) .nil .nil)) (.node (hd.x118 P) (.node (hd.x182 P) (.node (hd.x310 P) .nil .nil) .nil) (.node (hd.x246 P) .nil .nil)))) (.node (hd.x30 P) (.node (hd.x46 P) (.node (hd.x78 P) (.node (hd.x142 P) (.node (hd.x270 P) .nil .nil) .nil) (.node (hd.x206 P) .nil .nil)) (.node (hd.x110 P) (.node (hd.x174 P) (.node (hd.x302 P) .nil .nil) .nil) (.node (hd.x238 P) .nil .nil))) (.node (hd.x62 P) (.node (hd.x94 P) (.node (hd.x158 P) (.node (hd.x286 P) .nil .nil) .nil) (.node (hd.x222 P) .nil .nil)) (.node (hd.x126 P) (.node (hd.x190 P) (.node (hd.x318 P) .nil .nil) .nil) (.node (hd.x254 P) .nil .nil))))))))
noncomputable def hd.t_s4 (w : World) (os : OsState) : SharedT := ⟨hd.t_t4 w.params, 323, {}, ⟨[]⟩, boot_drawn, 678, os⟩
def hd.t_q4 : Pos := ⟨151, 0, 158, 108⟩
theorem hd.t_run4 (w : World) (os : OsState) : segRunT treeTable PySem.Challenge.pw_nz0252_01 w 11 (some (.ref 6)) 1 650 (hd.t_s3 w os) (piecesOf (((behindTheImports PySem.Challenge.pw_nz0252_01).drop 22).take 7) hd.t_env hd.t_c hd.t_q3 [topFrame hd.t_p0]) = some (.next, hd.t_s4 w os, hd.t_c, hd.t_q4) := by rw [PySem.W.Fast.te10110043849684766642, PySem.W.Fast.te14364793385576792824]; kernel_rfl
noncomputable def hd.t_t5 (P : Params) : BT := (.node (boot_o_0 P) (.node (boot_o_1 P) (.node (hd.x3_4 P) (.node (boot_o_7 P) (.node (hd.x15 P) (.node (hd.x31 P) (.node (hd.x63 P) (.node (hd.x127 P) (.node (hd.x255 P) .nil .nil) (.node (hd.x383 P) .nil .nil)) (.node (hd.x191 P) (.node (hd.x319 P) .nil .nil) .nil)) (.node (hd.x95 P) (.node (hd.x159 P) (.node (hd.x287 P) .nil .nil) (.node (hd.x415 P) .nil .nil)) (.node (hd.x223 P) (.node (hd.x351 P) .nil .nil) .nil))) (.node (hd.x47 P) (.node (hd.x79 P) (.node (hd.x143 P) (.node (hd.x271 P) .nil .nil) (.node (hd.x399 P) .nil .nil)) (.node (hd.x207 P) (.node (hd.x335 P) .nil .nil) .nil)) (.node (hd.x111 P) (.node (hd.x175 P) (.node (hd.x303 P) .nil .nil) .nil) (.node (hd.x239 P) (.node (hd.x367 P) .nil .nil) .nil)))) (.node (hd.x23 P) (.node (hd.x39 P) (.node (hd.x71 P) (.node (hd.x135 P) (.node (hd.x263 P) .nil .nil) (.node (hd.x391 P) .nil .nil)) (.node (hd.x199 P) (.node (hd.x327 P) .nil .nil) .nil)) (.node (hd.x103 P) (.node (hd.x167 P) (.node (hd.x295 P) .nil .nil) .nil) (.node (hd.x231 P) (.node (hd.x359 P) .nil .nil) .nil))) (.node (hd.x55 P) (.node (hd.x87 P) (.node (hd.x151 P) (.node (hd.x279 P) .nil .nil) (.node (hd.x407 P) .nil .nil)) (.node (hd.x215 P) (.node (hd.x343 P) .nil .nil) .nil)) (.node (hd.x119 P) (.node (hd.x183 P) (.node (hd.x311 P) .nil .nil) .nil) (.node (hd.x247 P) (.node (hd.x375 P) .nil .nil) .nil))))) (.node (hd.t_o43 P) (.node (hd.x19 P) (.node (hd.x35 P) (.node (hd.x67 P) (.node (hd.x131 P) (.node (hd.x259 P) .nil .nil) (.node (hd.x387 P) .nil .nil)) (.node (hd.x195 P) (.node (hd.x323 P) .nil .nil) .nil)) (.node (hd.x99 P) (.node (hd.x163 P) (.node (hd.x291 P) .nil .nil) .nil) (.node (hd.x227 P) (.node (hd.x355 P) .nil .nil) .nil))) (.node (hd.x51 P) (.node (hd.x83 P) (.node (hd.x147 P) (.node (hd.x275 P) .nil .nil) (.node (hd.x403 P) .nil .nil)) (.node (hd.x211 P) (.node (hd.x339 P) .nil .nil) .nil)) (.node (hd.x115 P) (.node (hd.x179 P) (.node (hd.x307 P) .nil .nil) .nil) (.node (hd.x243 P) (.node (hd.x371 P) .nil .nil) .nil)))) (.node (hd.x27 P) (.node (hd.x43 P) (.node (hd.x75 P) (.node (hd.x139 P) (.node (hd.x267 P) .nil .nil) (.node (hd.x395 P) .nil .nil)) (.node (hd.x203 P) (.node (hd.x331 P) .nil .nil) .nil)) (.node (hd.x107 P) (.node (hd.x171 P) (.node (hd.x299 P) .nil .nil) .nil) (.node (hd.x235 P) (.node (hd.x363 P) .nil .nil) .nil))) (.node (hd.x59 P) (.node (hd.x91 P) (.node (hd.x155 P) (.node (hd.x283 P) .nil .nil) (.node (hd.x411 P) .nil .nil)) (.node (hd.x219 P) (.node (hd.x347 P) .nil .nil) .nil)) (.node (hd.x123 P) (.node (hd.x187 P) (.node (hd.x315 P) .nil .nil) .nil) (.node (hd.x251 P) (.node (hd.x379 P) .nil .nil) .nil)))))) (.node (boot_o_5 P) (.node (boot_o_9 P) (.node (hd.x17 P) (.node (hd.x33 P) (.node (hd.x65 P) (.node (hd.x129 P) (.node (hd.x257 P) .nil .nil) (.node (hd.x385 P) .nil .nil)) (.node (hd.x193 P) (.node (hd.x321 P) .nil .nil) .nil)) (.node (hd.x97 P) (.node (hd.x161 P) (.node (hd.x289 P) .nil .nil) .nil) (.node (hd.x225 P) (.node (hd.x353 P) .nil .nil) .nil))) (.node (hd.x49 P) (.node (hd.x81 P) (.node (hd.x145 P) (.node (hd.x273 P) .nil .nil) (.node (hd.x401 P) .nil .nil)) (.node (hd.x209 P) (.node (hd.x337 P) .nil .nil) .nil)) (.node (hd.x113 P) (.node (hd.x177 P) (.node (hd.x305 P) .nil .nil) .nil) (.node (hd.x241 P) (.node (hd.x369 P) .nil .nil) .nil)))) (.node (hd.x25 P) (.node (hd.x41 P) (.node (hd.x73 P) (.node (hd.x137 P) (.node (hd.x265 P) .nil .nil) (.node (hd.x393 P) .nil .nil)) (.node (hd.x201 P) (.node (hd.x329 P) .nil .nil) .nil)) (.node (hd.x105 P) (.node (hd.x169 P) (.node (hd.x297 P) .nil .nil) .nil) (.node (hd.x233 P) (.node (hd.x361 P) .nil .nil) .nil))) (.node (hd.x57 P) (.node (hd.x89 P) (.node (hd.x153 P) (.node (hd.x281 P) .nil .nil) (.node (hd.x409 P) .nil .nil)) (.node (hd.x217 P) (.node (hd.x345 P) .nil .nil) .nil)) (.node (hd.x121 P) (.node (hd.x185 P) (.node (hd.x313 P) .nil .nil) .nil) (.node (hd.x249 P) (.node (hd.x377 P) .nil .nil) .nil))))) (.node (hd.t_o45 P) (.node (hd.x21 P) (.node (hd.x37 P) (.node (hd.x69 P) (.node (hd.x133 P) (.node (hd.x261 P) .nil .nil) (.node (hd.x389 P) .nil .nil)) (.node (hd.x197 P) (.node (hd.x325 P) .nil .nil) .nil)) (.node (hd.x101 P) (.node (hd.x165 P) (.node (hd.x293 P) .nil .nil) .nil) (.node (hd.x229 P) (.node (hd.x357 P) .nil .nil) .nil))) (.node (hd.x53 P) (.node (hd.x85 P) (.node (hd.x149 P) (.node (hd.x277 P) .nil .nil) (.node (hd.x405 P) .nil .nil)) (.node (hd.x213 P) (.node (hd.x341 P) .nil .nil) .nil)) (.node (hd.x117 P) (.node (hd.x181 P) (.node (hd.x309 P) .nil .nil) .nil) (.node (hd.x245 P) (.node (hd.x373 P) .nil .nil) .nil)))) (.node (hd.x29 P) (.node (hd.x45 P) (.node (hd.x77 P) (.node (hd.x141 P) (.node (hd.x269 P) .nil .nil) (.node (hd.x397 P) .nil .nil)) (.node (hd.x205 P) (.node (hd.x333 P) .nil .nil) .nil)) (.node (hd.x109 P) (.node (hd.x173 P) (.node (hd.x301 P) .nil .nil) .nil) (.node (hd.x237 P) (.node (hd.x365 P) .nil .nil) .nil))) (.node (hd.x61 P) (.node (hd.x93 P) (.node (hd.x157 P) (.node (hd.x285 P) .nil .nil) (.node (hd.x413 P) .nil .nil)) (.node (hd.x221 P) (.node (hd.x349 P) .nil .nil) .nil)) (.node (hd.x125 P) (.node (hd.x189 P) (.node (hd.x317 P) .nil .nil) .nil) (.node (hd.x253 P) (.node (hd.x381 P) .nil .nil) .nil))))))) (.node (hd.x2 P) (.node (boot_o_4 P) (.node (boot_o_8 P) (.node (hd.x16 P) (.node (hd.x32 P) (.node (hd.x64 P) (.node (hd.x128 P) (.node (hd.x256 P) .nil .nil) (.node (hd.x384 P) .nil .nil)) (.node (hd.x192 P) (.node (hd.x320 P) .nil .nil) .nil)) (.node (hd.x96 P) (.node (hd.x160 P) (.node (hd.x288 P) .nil .nil) .nil) (.node (hd.x224 P) (.node (hd.x352 P) .nil .nil) .nil))) (.node (hd.x48 P) (.node (hd.x80 P) (.node (hd.x144 P) (.node (hd.x272 P) .nil .nil) (.node (hd.x400 P) .nil .nil)) (.node (hd.x208 P) (.node (hd.x336 P) .nil .nil) .nil)) (.node (hd.x112 P) (.node (hd.x176 P) (.node (hd.x304 P) .nil .nil) .nil) (.node (hd.x240 P) (.node (hd.x368 P) .nil .nil) .nil)))) (.node (hd.x24 P) (.node (hd.x40 P) (.node (hd.x72 P) (.node (hd.x136 P) (.node (hd.x264 P) .nil .nil) (.node (hd.x392 P) .nil .nil)) (.node (hd.x200 P) (.node (hd.x328 P) .nil .nil) .nil)) (.node (hd.x104 P) (.node (hd.x168 P) (.node (hd.x296 P) .nil .nil) .nil) (.node (hd.x232 P) (.node (hd.x360 P) .nil .nil) .nil))) (.node (hd.x56 P) (.node (hd.x88 P) (.node (hd.x152 P) (.node (hd.x280 P) .nil .nil) (.node (hd.x408 P) .nil .nil)) (.node (hd.x216 P) (.node (hd.x344 P) .nil .nil) .nil)) (.node (hd.x120 P) (.node (hd.x184 P) (.node (hd.x312 P) .nil .nil) .nil) (.node (hd.x248 P) (.node (hd.x376 P) .nil .nil) .nil))))) (.node (hd.x12_4 P) (.node (hd.x20 P) (.node (hd.x36 P) (.node (hd.x68 P) (.node (hd.x132 P) (.node (hd.x260 P) .nil .nil) (.node (hd.x388 P) .nil .nil)) (.node (hd.x196 P) (.node (hd.x324 P) .nil .nil) .nil)) (.node (hd.x100 P) (.node (hd.x164 P) (.node (hd.x292 P) .nil .nil) .nil) (.node (hd.x228 P) (.node (hd.x356 P) .nil .nil) .nil))) (.node (hd.x52 P) (.node (hd.x84 P) (.node (hd.x148 P) (.node (hd.x276 P) .nil .nil) (.node (hd.x404 P) .nil .nil)) (.node (hd.x212 P) (.node (hd.x340 P) .nil .nil) .nil)) (.node (hd.x116 P) (.node (hd.x180 P) (.node (hd.x308 P) .nil .nil) .nil) (.node (hd.x244 P) (.node (hd.x372 P) .nil .nil) .nil)))) (.node (hd.x28 P) (.node (hd.x44 P) (.node (hd.x76 P) (.node (hd.x140 P) (.node (hd.x268 P) .nil .nil) (.node (hd.x396 P) .nil .nil)) (.node (hd.x204 P) (.node (hd.x332 P) .nil .nil) .nil)) (.node (hd.x108 P) (.node (hd.x172 P) (.node (hd.x300 P) .nil .nil) .nil) (.node (hd.x236 P) (.node (hd.x364 P) .nil .nil) .nil))) (.node (hd.x60 P) (.node (hd.x92 P) (.node (hd.x156 P) (.node (hd.x284 P) .nil .nil) (.node (hd.x412 P) .nil .nil)) (.node (hd.x220 P) (.node (hd.x348 P) .nil .nil) .nil)) (.node (hd.x124 P) (.node (hd.x188 P) (.node (hd.x316 P) .nil .nil) .nil) (.node (hd.x252 P) (.node (hd.x380 P) .nil .nil) .nil)))))) (.node (boot_o_6 P) (.node (boot_o_10 P) (.node (hd.x18 P) (.node (hd.x34 P) (.node (hd.x66 P) (.node (hd.x130 P) (.node (hd.x258 P) .nil .nil) (.node (hd.x386 P) .nil .nil)) (.node (hd.x194 P) (.node (hd.x322 P) .nil .nil) .nil)) (.node (hd.x98 P) (.node (hd.x162 P) (.node (hd.x290 P) .nil .nil) .nil) (.node (hd.x226 P) (.node (hd.x354 P) .nil .nil) .nil))) (.node (hd.x50 P) (.node (hd.x82 P) (.node (hd.x146 P) (.node (hd.x274 P) .nil .nil) (.node (hd.x402 P) .nil .nil)) (.node (hd.x210 P) (.node (hd.x338 P) .nil .nil) .nil)) (.node (hd.x114 P) (.node (hd.x178 P) (.node (hd.x306 P) .nil .nil) .nil) (.node (hd.x242 P) (.node (hd.x370 P) .nil .nil) .nil)))) (.node (hd.x26 P) (.node (hd.x42 P) (.node (hd.x74 P) (.node (hd.x138 P) (.node (hd.x266 P) .nil .nil) (.node (hd.x394 P) .nil .nil)) (.node (hd.x202 P) (.node (hd.x330 P) .nil .nil) .nil)) (.node (hd.x106 P) (.node (hd.x170 P) (.node (hd.x298 P) .nil .nil) .nil) (.node (hd.x234 P) (.node (hd.x362 P) .nil .nil) .nil))) (.node (hd.x58 P) (.node (hd.x90 P) (.node (hd.x154 P) (.node (hd.x282 P) .nil .nil) (.node (hd.x410 P) .nil .nil)) (.node (hd.x218 P) (.node (hd.x346 P) .nil .nil) .nil)) (.node (hd.x122 P) (.node (hd.x186 P) (.node (hd.x314 P) .nil .nil) .nil) (.node (hd.x250 P) (.node (hd.x378 P) .nil .nil) .nil))))) (.node (hd.t_o46 P) (.node (hd.x22 P) (.node (hd.x38 P) (.node (hd.x70 P) (.node (hd.x134 P) (.node (hd.x262 P) .nil .nil) (.node (hd.x390 P) .nil .nil)) (.node (hd.x198 P) (.node (hd.x326 P) .nil .nil) .nil)) (.node (hd.x102 P) (.node (hd.x166 P) (.node (hd.x294 P) .nil .nil) .nil) (.node (hd.x230 P) (.node (hd.x358 P) .nil .nil) .nil))) (.node (hd.x54 P) (.node (hd.x86 P) (.node (hd.x150 P) (.node (hd.x278 P) .nil .nil) (.node (hd.x406 P) .nil .nil)) (.node (hd.x214 P) (.node (hd.x342 P) .nil .nil) .nil)) (.node (hd.x118 P) (.node (hd.x182 P) (.node (hd.x310 P) .nil .nil) .nil) (.node (hd.x246 P) (.node (hd.x374 P) .nil .nil) .nil)))) (.node (hd.x30 P) (.node (hd.x46 P) (.node (hd.x78 P) (.node (hd.x142 P) (.node (hd.x270 P) .nil .nil) (.node (hd.x398 P) .nil .nil)) (.node (hd.x206 P) (.node (hd.x334 P) .nil .nil) .nil)) (.node (hd.x110 P) (.node (hd.x174 P) (.node (hd.x302 P) .nil .nil) .nil) (.node (hd.x238 P) (.node (hd.x366 P) .nil .nil) .nil))) (.node (hd.x62 P) (.node (hd.x94 P) (.node (hd.x158 P) (.node (hd.x286 P) .nil .nil) (.node (hd.x414 P) .nil .nil)) (.node (hd.x222 P) (.node (hd.x350 P) .nil .nil) .nil)) (.node (hd.x126 P) (.node (hd.x190 P) (.node (hd.x318 P) .nil .nil) .nil) (.node (hd.x254 P) (.node (hd.x382 P) .nil .nil) .nil))))))))
noncomputable def hd.t_s5 (w : World) (os : OsState) : SharedT := ⟨hd.t_t5 w.params, 416, {}, ⟨[]⟩, boot_drawn, 802, os⟩
def hd.t_q5 : Pos := ⟨245, 0, 260, 15⟩
theorem hd.t_run5 (w : World) (os : OsState) : segRunT treeTable PySem.Challenge.pw_nz0252_01 w 11 (some (.ref 6)) 1 465 (hd.t_s4 w os) (piecesOf ((behindTheImports PySem.Challenge.pw_nz0252_01).drop 29) hd.t_env hd.t_c hd.t_q4 [topFrame hd.t_p0]) = some (.next, hd.t_s5 w os, hd.t_c, hd.t_q5) := by rw [PySem.W.Fast.te10110043849684766642, PySem.W.Fast.te14364793385576792824]; kernel_rfl
theorem hd.t_cut {α : Type} (l : List α) : (l.take 7) ++ (((l.drop 7).take 7) ++ (((l.drop 14).take 8) ++ (((l.drop 22).take 7) ++ ((l.drop 29) ++ [])))) = l := by
  have e (i j : Nat) : (l.drop i).take j ++ l.drop (i + j) = l.drop i := by rw [← List.drop_drop]; exact List.take_append_drop j _
  rw [List.append_nil, e 22 7, e 14 8, e 7 7]; exact List.take_append_drop 7 l
theorem hd.t_fin2 (w : World) (s : Shared) : topRun treeTable PySem.Challenge.pw_nz0252_01 w 11 (some (.ref 6)) 3 s ⟨doneF .next, hd.t_c, hd.t_q5, [topFrame hd.t_p0]⟩ = some s := by kernel_rfl
theorem hd.t_lookA (w : World) (os : OsState) : (staticsOk (importedModules PySem.Challenge.pw_nz0252_01.main.body) (boot_heap w.params) (hd.t_s5 w os).abs.heap && namesBound PySem.Challenge.pw_nz0252_01 (hd.t_s5 w os).abs.heap && gensDone (hd.t_s5 w os).abs && laidKept (boot_heap w.params) (hd.t_s5 w os).abs.heap) = true := by kernel_rfl
theorem hd.t_lookH (w : World) (os : OsState) : hd.hook.obs (hd.t_s5 w os).abs = hd.hook.val w := by kernel_rfl
theorem hd.t_lookB (w : World) (os : OsState) : openSeen hd.view_39 [] (importedModules PySem.Challenge.pw_nz0252_01.main.body) hd.Xt true (hd.t_s5 w os).abs = openGood hd.view_39 [] := by kernel_rfl
theorem hd.opens : opening PySem.Challenge.pw_nz0252_01 = plainProg PySem.Challenge.pw_nz0252_01.main.scope.names := by kernel_rfl
theorem hd.fence (s : Shared) : fenceModules? PySem.Challenge.pw_nz0252_01 s = some s := by kernel_rfl
theorem hd.size (P : Params) : ((boot_heap P).isNs mainGlobals && (Array.mk ([] : List GenState)).size == 0, (boot_heap P).objs.size, (boot_heap P).nsMap mainGlobals "__annotations__") = (true, 11, some (.ref 6)) := by kernel_rfl
theorem hd.l_top (w : World) (os : OsState) : topRun treeTable PySem.Challenge.pw_nz0252_01 w 11 (some (.ref 6)) 6556 ⟨boot_heap w.params, ⟨[]⟩, boot_drawn, boot_toks, os⟩ (topStub PySem.Challenge.pw_nz0252_01) = some (hd.t_s5 w os).abs := by
  have k := piece_app (segRun_of (hd.t_run1 w os)) (piece_app (segRun_of (hd.t_run2 w os)) (piece_app (segRun_of (hd.t_run3 w os)) (piece_app (segRun_of (hd.t_run4 w os)) (piece_app (rest := []) (segRun_of (hd.t_run5 w os)) (piece_nil (hd.t_fin2 w _))))))
  rw [hd.t_cut] at k
  exact topRun_mono 3240 _ _ _ _ (go_top (hd.t_pre w os) (piece_block (hd.t_block w os) k))
theorem hd.l_from {tb : String → Option Builtin} {p : Program} {w : World} {N n : Nat} {a : Option Value} {s s₁ : Shared} (h1 : (s.heap.isNs mainGlobals && s.gens.size == 0) = true) (h2 : s.heap.objs.size = n) (h3 : s.heap.nsMap mainGlobals "__annotations__" = a)
    (h4 : topRun tb p w n a N s (topStub p) = some s₁) (h5 : (staticsOk (importedModules p.main.body) s.heap s₁.heap && namesBound p s₁.heap && gensDone s₁ && laidKept s.heap s₁.heap) = true) : topFrom tb p w N s = some s₁ := by
  subst h2; subst h3
  unfold topFrom
  rw [h1, h4]
  simp only [Option.bind_some, h5]
theorem hd.l_left {p q : Program} {l : List Str} {Xt : Shared → Bool} {α} {Yf : Shared → α} {Ya : World → α} {N : Nat} {w : World} {s s₁ : Shared} (h1 : fencedOpening treeTable p w N = some s) (h2 : topFrom treeTable p w N s = some s₁)
   (h3 : openSeen q l (importedModules p.main.body) Xt true s₁ = openGood q l) (h4 : Yf s₁ = Ya w) : (openEnds treeTable p w N).map (fun s => (openSeen q l (importedModules p.main.body) Xt true s, Yf s)) = some (openGood q l, Ya w) := by
  unfold openEnds
  rw [h1, Option.bind_some, h2, Option.map_some, h3, h4]
theorem hd.l_boot (w : World) : ∃ os, fencedOpening treeTable PySem.Challenge.pw_nz0252_01 w 6556 = some ⟨boot_heap w.params, ⟨[]⟩, boot_drawn, boot_toks, os⟩ := by
  obtain ⟨⟨h, gs, d, k, os⟩, e, e'⟩ := Option.map_eq_some_iff.mp (boot_open (N := 6556) hd.opens rfl hd.fence w)
  obtain ⟨rfl, rfl, rfl, rfl⟩ : h = boot_heap w.params ∧ gs = ⟨[]⟩ ∧ d = boot_drawn ∧ k = boot_toks := by simpa using e'
  exact ⟨os, e⟩
theorem hd.left : LeftO PySem.Challenge.pw_nz0252_01 hd.view_39 [] hd.Xt hd.hook.obs hd.hook.val 6556 := fun w => by
  obtain ⟨os, e⟩ := hd.l_boot w
  obtain ⟨z1, z2, z3⟩ : _ ∧ _ ∧ _ := by simpa only [Prod.mk.injEq] using hd.size w.params
  exact hd.l_left e (hd.l_from z1 z2 z3 (hd.l_top w os) (hd.t_lookA w os)) (hd.t_lookB w os) (hd.t_lookH w os)
theorem hd.w1 : namesResolve PySem.Challenge.rw_nz0252_01.row.prog = true := by kernel_rfl
theorem hd.w2 : noRoadLSs { strict := !(importedModules PySem.Challenge.rw_nz0252_01.row.prog.main.body).all cThrough.contains, foot := none, bare := (["vars", "dir", "locals"] : List Str).filter (readsOut PySem.Challenge.rw_nz0252_01.row.prog PySem.Challenge.rw_nz0252_01.row.prog.main.body) } PySem.Challenge.rw_nz0252_01.row.prog.main.body = true := by kernel_rfl
theorem hd.w3 : (namesMeet PySem.Challenge.rw_nz0252_01.row.prog PySem.Challenge.rw_nz0252_01.row.prog.main.body fun _ n => attrL n) = true := by kernel_rfl
theorem hd.w4 : (PySem.Challenge.rw_nz0252_01.bound'.all (fun n => !builtinNamed n || PySem.Challenge.rw_nz0252_01.about == [n] || !PySem.Challenge.rw_nz0252_01.reads n)) = true := by kernel_rfl
theorem hd.w5 : noRoadLSs { strict := true, foot := some PySem.Challenge.rw_nz0252_01.bound', writes := PySem.Challenge.rw_nz0252_01.writes, may := PySem.Challenge.rw_nz0252_01.may } PySem.Challenge.rw_nz0252_01.footing = true := by kernel_rfl
theorem hd.well : PySem.Challenge.rw_nz0252_01.wellSaid = true := by
  unfold OpenLaw.wellSaid OpenRow.wellSaid OpenRow.partSaid looksOpen
  rw [hd.w1, hd.w2, hd.w3, hd.w4, hd.w5]
  kernel_rfl
theorem hd.well2 : (chainsOk hd.view_39 && opensWell PySem.Challenge.rw_nz0252_01.row.prog && (frees PySem.Challenge.rw_nz0252_01.row.toRowW && PySem.Challenge.rw_nz0252_01.row.within.isEmpty)) = true := by kernel_rfl
theorem hd.bare : PySem.Challenge.rw_nz0252_01.row.prog.bare := ⟨rfl, rfl, rfl, rfl, rfl, by decide +kernel⟩
theorem hd.wit : PySem.Challenge.rw_nz0252_01.row.promised := by w_witness2
theorem hd {d : DefRec} {kwd : List (Str × PySem.Expr)} (e1 : defOf hd.view_39 PySem.Challenge.rw_nz0252_01.row.name = some (d, kwd)) (e2 : PySem.Challenge.rw_nz0252_01.row.prog.theDef PySem.Challenge.rw_nz0252_01.row.name = some (d.params, d.body, d.scope))
    (e3 : kwWritten? d.params.kwonlyargs d.params.kw_defaults = some kwd)
    (walk : WalkO hd.view_39 [] (XL hd.view_39 []) (kHook hd.heap_39 hd.addrs hd.addrs_eq).says PySem.Challenge.rw_nz0252_01.row.toRowW d kwd fun f vs => call f vs) : PySem.Challenge.rw_nz0252_01.Holds :=
  holds_law hd.well fun said => holds_open (q := hd.view_39) (loose := []) (Xt := hd.Xt) (XP := XL hd.view_39 []) (Yf := hd.hook.obs) (Ya := hd.hook.val) (YP := hd.hook.says) (N := 6556) hd.left hd.hook.of hd.hook.keeps
    (fun s e => xl_of s (Bool.and_eq_true_iff.mp e).1) XL.keeps e1 e2 e3 (fun _ e => recFacts_of (Bool.and_eq_true_iff.mp e).2) (by rfl) said hd.well2 hd.bare hd.wit walk
end
section
theorem up {α : Type} {M : Model} {A : Around} {t : Sem α} {Q : α → Shared → Prop} {E : Value → Shared → Prop} {s : Shared} {dp un : Nat} {hd : Option Value} {fr : Option (List Env)}
    (h1 : A.depth ≤ dp) (h2 : A.units ≤ un) (h3 : A.handled = hd) (h4 : A.frames = fr) (h : wpAny M { handled := hd, depth := dp, frames := fr, guards := none, units := un } t Q E s) : wpAny M A t Q E s := by
  intro Γ p hΓ
  subst h3 h4
  exact h Γ p ⟨hΓ.1, Nat.le_trans hΓ.2.1 h1, hΓ.2.2.1, (fun g e => by cases e), Nat.le_trans hΓ.2.2.2.2 h2⟩
theorem fm0 {a : Int} {m : Int} (h : 0 < m) : 0 ≤ a.fmod m := by rw [Int.fmod_eq_emod_of_nonneg _ (Int.le_of_lt h)]; exact Int.emod_nonneg _ (Int.ne_of_gt h)
theorem fm1 {a : Int} {m : Int} (h : 0 < m) : a.fmod m < m := by rw [Int.fmod_eq_emod_of_nonneg _ (Int.le_of_lt h)]; exact Int.emod_lt_of_pos _ h
theorem fd0 {a : Int} {m : Int} (h : 0 < m) (ha : 0 ≤ a) : 0 ≤ a.fdiv m := by rw [Int.fdiv_eq_ediv_of_nonneg _ (Int.le_of_lt h)]; exact Int.ediv_nonneg ha (Int.le_of_lt h)
theorem fd1 {a : Int} {m : Int} (h : 0 < m) (ha : 0 ≤ a) : a.fdiv m ≤ a := by rw [Int.fdiv_eq_ediv_of_nonneg _ (Int.le_of_lt h)]; exact Int.ediv_le_self _ ha
theorem mulOkFm {x y m : Int} (h : 0 < m) (hm : m < 2 ^ 64) : PySem.IntMulOk (x.fmod m) y := PySem.IntMulOk.of_left (PySem.intBits_le_64 (Int.lt_of_lt_of_le (by decide) (fm0 h)) (Int.lt_trans (fm1 h) hm))
section
variable {prog : Program} {w : World} {A : Around} {E : Value → Shared → Prop} {s : Shared} {h₀ : Heap} {L : Addr} {news : List (Addr × Obj)}
theorem len_L {l : Addr} {vs : List Value} {n : Nat} {Q : Value → Shared → Prop} (N : News h₀ L s.heap news) (hm : (l, listOf vs.toArray n) ∈ news) (hfit : (vs.length : Int) < 2 ^ 63)
    (h : ∀ t tk, Q (.int vs.length t) { s with toks := tk }) : wpAny (model prog w) A (call (.builtin "len") [.ref l]) Q E s :=
  call_len_list (News.isList N hm) (by rw [List.size_toArray]; exact hfit) (by rw [List.size_toArray]; exact h _ _)
theorem item_L {value slice : PySem.Expr} {l : Addr} {vs : List Value} {n : Nat} {k : Int} {u : Tok} {v : Value} {Q : Value → Shared → Prop} (N : News h₀ L s.heap news) (hm : (l, listOf vs.toArray n) ∈ news) (h0 : 0 ≤ k) (hhi : k < 2 ^ 63) (hx : vs[k.toNat]? = some v) (h : Q v s)
    (hs : subscripted slice false (.ref l) (.int k u) = operate [.ref l, .int k u] (getItem (.ref l) (.int k u)) := by with_unfolding_all rfl) :
    wpAny (model prog w) A (subscriptTail value slice (.ref l) (.int k u)) Q E s := item_litK (News.isList N hm) h0 hhi hx h hs
end
theorem ints_at {vs : List Value} {ns : List Int} (h : IntsAre vs ns) (i : Nat) (hi : i < ns.length) : ∃ t x, x ∈ ns ∧ vs[i]? = some (.int x t) := by
  obtain ⟨t, e⟩ := h.get i ns[i] (by simp [hi])
  exact ⟨t, _, List.getElem_mem hi, e⟩
theorem subMem {α : Type} {X Y : List α} (h : ∀ p ∈ X, p ∈ Y) {p : α} (hp : p ∈ X) : p ∈ Y := h p hp
end
section
/-- a display of written ints -/
inductive ConstsAre : List PySem.Expr → List Int → Prop
  | nil : ConstsAre [] []
  | cons (a : Int) (k : Nat) (p : Pos) {es : List PySem.Expr} {ns : List Int} : ConstsAre es ns → ConstsAre (.Constant (.int a) k p :: es) (a :: ns)
  | neg (a : Int) (k : Nat) (p q : Pos) {es : List PySem.Expr} {ns : List Int} : ConstsAre es ns → ConstsAre (.UnaryOp .USub (.Constant (.int a) k p) q :: es) (-a :: ns)
section
variable {prog : Program} {w : World} {A : Around} {h₀ : Heap} {env : Env} {L : Addr} {m : Str → Option Value} {news : List (Addr × Obj)} {E : Value → Shared → Prop}
theorem spliced_consts {es : List PySem.Expr} {ns : List Int} {pos : Pos} (hc : ConstsAre es ns) : ∀ {s : Shared} {Q : List Value → Shared → Prop}, (∀ vs tk, IntsAre vs ns → Q vs { s with toks := tk }) → wpAny (model prog w) A (spliced (backTo pos (starEach es env))) Q E s := by
  induction hc with
  | nil => intro s Q h; exact args_nil (h [] s.toks .nil)
  | cons a k p _ ih => intro s Q h; exact args_cons (wpAny_Constant_int (ih fun vs tk hi => h _ tk (.cons a _ hi)))
  | neg a k p q _ ih => intro s Q h; exact args_cons (wpAny_UnaryOp (wpAny_Constant_int (neg_int (ih fun vs tk hi => h _ tk (.cons (-a) _ hi)))))
theorem list_consts {es : List PySem.Expr} {ns : List Int} {pos : Pos} {s : Shared} {Q : Value → Shared → Prop} (hc : ConstsAre es ns) (F : Fr h₀ L s.heap m) (N : News h₀ L s.heap news) (hz : 0 < ns.length ∧ ns.length ≤ 255)
    (h : ∀ l vs h' tk, IntsAre vs ns → Fr h₀ L h' m → News h₀ L h' ((l, listOf (List.toArray vs) 0) :: news) → (∀ p ∈ news, p.1 < l) → Q (.ref l) { s with heap := h', toks := tk }) :
    wpAny (model prog w) A (eval (.List es pos) env) Q E s :=
  List_ (spliced_consts hc fun vs tk hi => newList_K F N (fun l h' F' N' l1 => h l vs h' tk hi F' N' l1) (by rw [hi.length, sizeLine_eq]; have := hz.2; omega))
end
end
section
section
variable {w : World} {A A₀ : Around} {base h₀ : Heap} {outer : List Env} {env : Env} {L : Addr} {m : Str → Option Value} {s : Shared} {news : List (Addr × Obj)} {mg mb : Str → Option Value} {mean : ExcName → Option Value}
  {Q E : Value → Shared → Prop}
local macro_rules | `(tactic| k_all) => `(tactic| assumption)
local macro_rules | `(tactic| walk_at "binaryOp Mult int int") => `(tactic| (dsimp only [List.getD_cons_zero, List.getD_cons_succ, Int.toNat]; refine mul_int ?_ (mulOkFm (by decide) (by decide))))
theorem c_take {l : Addr} {a b : Int} {ta tb : Tok} {n : Nat} {top : Int} {tt : Tok}
    (F : Fr h₀ L s.heap m) (B : Below A₀ base outer h₀) (X : (hd.heap_39 w.params).In h₀) (T : Top hd.view_39 (looseW hd.view_39 []) mean mg mb h₀)
    (hA : A.frames = some (env :: outer)) (hf : env.frame = some L) (hke : env.scope.kind = .function) (hh : A.handled = none) (hdp : A.depth ≤ 600) (hun : A.units ≤ 2000)
    (N : News h₀ L s.heap ((l, listOf #[.int a ta, .int b tb] n) :: news)) (hl : ∀ p ∈ news, p.1 ≠ l)
    (h0a : 0 ≤ a) (h0b : 0 ≤ b) (hb : b < 2147483647) (h0t : 0 < top) (htop : top ≤ 65535)
    (hret : ∀ r t a' ta' b' tb' n' h' tk', Fr h₀ L h' m → News h₀ L h' ((l, listOf #[.int a' ta', .int b' tb'] n') :: news) → 0 ≤ r → r < top → 0 ≤ a' → 0 ≤ b' → b' < 2147483647 → Q (.int r t) { s with heap := h', toks := tk' }) :
    wpAny (model Challenge.rw_nz0252_01.row.prog w) A (call (.ref 341) [.ref l, .int top tt]) Q E s := by

  revert X; k_fill; intro X
  refine up hdp hun hh hA ?_
  refine wpAny_call ?_
  k_dflt (refine' code_def (binds := [(Str.ofString "source", .ref l), (Str.ofString "top", .int top tt)]) ?k1 ?k2 ?k3 ?k4 ?k5 ?kA ?kF ?kK ?k6 ?k7 ?k8 ?k9 ?kB ?_ ?c2 ?c3 ?c4 ?c5; (case kA => exact rfl); (case kF => assumption); (case kK => assumption); (case k1 => k_asm); (case k2 => k_asm); (case k3 => k_asm); (case k4 => k_asm); (case k5 => k_asm); (case k6 => k_is); (case k7 => k_is); (case k8 => k_room); (case k9 => exact BindsTo.of_eq rfl); (case c5 => decide); (case kB => exact locs rfl); (case c2 => exact rfl); (case c3 => exact rfl); (case c4 => exact rfl); k_whole; intro g' L' h' FG' F' N' B' X' T'; (try dsimp only); (try k_lift B'); (try k_fold))
  k_steps
  · exact hret _ _ _ _ _ _ _ _ _ (by k_asm) (by k_asm) (fm0 h0t) (fm1 h0t) (fd0 h0t h0a) h0b hb
  · exact hret _ _ _ _ _ _ _ _ _ (by k_asm) (by k_asm) (fm0 h0t) (fm1 h0t) h0a (fm0 (by decide)) (fm1 (by decide))
end
end
section
section
variable {w : World} {A A₀ : Around} {base h₀ : Heap} {outer : List Env} {env : Env} {L : Addr} {m : Str → Option Value} {s : Shared} {news : List (Addr × Obj)} {mg mb : Str → Option Value} {mean : ExcName → Option Value}
  {Q E : Value → Shared → Prop}
local macro_rules | `(tactic| k_mem) => `(tactic| first | assumption | (refine List.Mem.tail _ ?_; assumption))
local macro_rules | `(tactic| walk_at "call builtin:len") => `(tactic| (k_here; (with_reducible show wpAny _ _ (call (Value.builtin "len") [Value.ref _]) _ _ _); refine len_L (by k_asm) (by k_mem) ?_ ?_))
local macro_rules | `(tactic| walk_at "call ref") => `(tactic| (k_here; (with_reducible show wpAny _ _ (call (Value.ref _) [Value.ref _, Value.int _ _]) _ _ _); k_dflt (refine' c_take (by k_asm) (by k_asm) (by k_asm) (by k_asm) (by exact rfl) (by first | exact rfl | assumption) (by first | exact rfl | assumption) (by exact rfl) (by exact Nat.le_of_ble_eq_true rfl) (by exact Nat.le_of_ble_eq_true rfl) (by k_asm) (by assumption) (by assumption) (by assumption) (by assumption) ?_ ?_ ?_)))
theorem getD_mem {ns : List Int} {i : Nat} (h : i < ns.length) : ns.getD i 0 ∈ ns := by
  simp [List.getD, h]
theorem c_one {l lt : Addr} {a b : Int} {ta tb : Tok} {n nt : Nat} {vs : List Value} {ns : List Int}
    (F : Fr h₀ L s.heap m) (B : Below A₀ base outer h₀) (X : (hd.heap_39 w.params).In h₀) (T : Top hd.view_39 (looseW hd.view_39 []) mean mg mb h₀)
    (hA : A.frames = some (env :: outer)) (hf : env.frame = some L) (hke : env.scope.kind = .function) (hh : A.handled = none) (hdp : A.depth ≤ 590) (hun : A.units ≤ 1900)
    (N : News h₀ L s.heap ((l, listOf #[.int a ta, .int b tb] n) :: news)) (hl : ∀ p ∈ news, p.1 ≠ l) (hm : (lt, listOf vs.toArray nt) ∈ news) (hi : IntsAre vs ns) (hp : 0 < ns.length) (hlen : ns.length ≤ 65535)
    (h0a : 0 ≤ a) (h0b : 0 ≤ b) (hb : b < 2147483647)
    (hret : ∀ r t a' ta' b' tb' n' h' tk', Fr h₀ L h' m → News h₀ L h' ((l, listOf #[.int a' ta', .int b' tb'] n') :: news) → r ∈ ns → 0 ≤ a' → 0 ≤ b' → b' < 2147483647 → Q (.int r t) { s with heap := h', toks := tk' }) :
    wpAny (model Challenge.rw_nz0252_01.row.prog w) A (call (.ref 348) [.ref l, .ref lt]) Q E s := by

  revert X; k_fill; intro X
  refine up hdp hun hh hA ?_
  refine wpAny_call ?_
  k_dflt (refine' code_def (binds := [(Str.ofString "source", .ref l), (Str.ofString "things", .ref lt)]) ?k1 ?k2 ?k3 ?k4 ?k5 ?kA ?kF ?kK ?k6 ?k7 ?k8 ?k9 ?kB ?_ ?c2 ?c3 ?c4 ?c5; (case kA => exact rfl); (case kF => assumption); (case kK => assumption); (case k1 => k_asm); (case k2 => k_asm); (case k3 => k_asm); (case k4 => k_asm); (case k5 => k_asm); (case k6 => k_is); (case k7 => k_is); (case k8 => k_room); (case k9 => exact BindsTo.of_eq rfl); (case c5 => decide); (case kB => exact locs rfl); (case c2 => exact rfl); (case c3 => exact rfl); (case c4 => exact rfl); k_whole; intro g' L' h' FG' F' N' B' X' T'; (try dsimp only); (try k_lift B'); (try k_fold))
  k_steps
  · refine hret _ _ _ _ _ _ _ _ _ (by k_asm) (by k_asm) ?_ (by assumption) (by assumption) (by assumption)
    have e := hi.length
    refine getD_mem ?_
    omega
end
end
section
section
variable {w : World} {A A₀ : Around} {base h₀ : Heap} {outer : List Env} {env : Env} {L : Addr} {m : Str → Option Value} {s : Shared} {news : List (Addr × Obj)} {mg mb : Str → Option Value} {mean : ExcName → Option Value}
  {Q E : Value → Shared → Prop}
theorem c_pool {l : Addr} {vs : List Value} {ns : List Int} {k : Int} {tk : Tok}
    (F : Fr h₀ L s.heap m) (B : Below A₀ base outer h₀) (X : (hd.heap_39 w.params).In h₀) (T : Top hd.view_39 (looseW hd.view_39 []) mean mg mb h₀)
    (hA : A.frames = some (env :: outer)) (hf : env.frame = some L) (hke : env.scope.kind = .function) (hh : A.handled = none) (hdp : A.depth ≤ 590) (hun : A.units ≤ 1900)
    (N : News h₀ L s.heap news) (hl : base.IsList l vs.toArray) (hi : IntsAre vs ns) (hlen : ns.length ≤ 63) (h0k : 0 ≤ k) (h1k : k ≤ 1)
    (hret : ∀ r a ta b tb n h' tk', Fr h₀ L h' m → News h₀ L h' ((r, listOf #[.int a ta, .int b tb] n) :: news) → (∀ p ∈ news, p.1 ≠ r) → 0 ≤ a → 0 ≤ b → b < 2147483647 → Q (.ref r) { s with heap := h', toks := tk' }) :
    wpAny (model Challenge.rw_nz0252_01.row.prog w) A (call (.ref 334) [.ref l, .int k tk]) Q E s := by

  revert X; k_fill; intro X
  refine up hdp hun hh hA ?_
  refine wpAny_call ?_
  k_dflt (refine' code_def (binds := [(Str.ofString "script", .ref l), (Str.ofString "k", .int k tk)]) ?k1 ?k2 ?k3 ?k4 ?k5 ?kA ?kF ?kK ?k6 ?k7 ?k8 ?k9 ?kB ?_ ?c2 ?c3 ?c4 ?c5; (case kA => exact rfl); (case kF => assumption); (case kK => assumption); (case k1 => k_asm); (case k2 => k_asm); (case k3 => k_asm); (case k4 => k_asm); (case k5 => k_asm); (case k6 => k_is); (case k7 => k_is); (case k8 => k_room); (case k9 => exact BindsTo.of_eq rfl); (case c5 => decide); (case kB => exact locs rfl); (case c2 => exact rfl); (case c3 => exact rfl); (case c4 => exact rfl); k_whole; intro g' L' h' FG' F' N' B' X' T'; (try dsimp only); (try k_lift B'); (try k_fold))
  k_steps
  all_goals
    refine hret _ _ _ _ _ _ _ _ (by k_asm) (by k_asm) (fun p hp => Nat.ne_of_lt (by apply_assumption; exact hp)) ?_ (fm0 (by decide)) (fm1 (by decide))
    refine Int.mul_nonneg ?_ ?_ <;> (split <;> omega)
end
end
section
section
variable {prog : Program} {w : World} {A : Around} {E : Value → Shared → Prop} {s : Shared} {env : Env} {h₀ : Heap} {target : Expr} {body : List Stmt} {Q : Flow → Shared → Prop}

/-- the end of a list's iterator is met quietly, wherever h₀ stands -/
def EndOk (prog : Program) (w : World) (A : Around) (h₀ : Heap) : Prop :=
  ∀ (s : Shared) (it l : Addr) (i : Nat) (items : Array Value) (Q : Option Value → Shared → Prop) (E : Value → Shared → Prop), (∀ b o, h₀.get? b = some o → s.heap.get? b = some o) → h₀.get? it = none →
    s.heap.IsListIter it l i → s.heap.IsList l items → items[i]? = none → (∀ h', Heap.ExtBut it s.heap h' → Q none { s with heap := h' }) → wpAny (model prog w) A (pyNext (.ref it)) Q E s
theorem EndOk.ofNone (hh : A.handled = none) : EndOk prog w A h₀ := fun _ _ _ _ _ _ _ _ _ a b c d => wpAny_pyNext_list_end hh a b c d

theorem letGo_iter {it l : Addr} {i : Nat} {v : Value} {Q : Unit → Shared → Prop} (h : s.heap.IsListIter it l i) (q : Q () s) : wpAny (model prog w) A (letOwnedTupleGo target (.ref it) v) Q E s := by
  obtain ⟨o, ho, hc, hd⟩ := h
  obtain ⟨cls, dict, data, slots⟩ := o
  dsimp only at hc hd
  subst hc hd
  unfold letOwnedTupleGo
  have key : wpAny (model prog w) A (do
      let (.ref r, .ref a) := ((Value.ref it : Value), v) | return
      let o ← load r
      match o.cls, o.data with
      | .type n, .fields vs =>
        if ["enumerate", "zip", "dict_itemiterator", "dict_reverseitemiterator", "odict_iterator", "itertools.zip_longest", "itertools.pairwise"].contains n && vs[0]? == some (rawInt a) then
          rule "for.unpacks-the-owned-tuple"
          updateField r 0 .none
      | _, _ => pure () : Sem Unit) Q E s := by
    cases v <;> first | exact wpAny_pure q | skip
    refine wpAny_bind (wpAny_load ho ?_)
    dsimp only
    split
    · rename_i hc
      exact absurd (Bool.and_eq_true_iff.mp hc).1 (by decide +kernel)
    · exact wpAny_pure q
  cases target <;> first | exact wpAny_pure q | exact key

theorem for_J {iter : Expr} {pos : Pos} {l : Addr} {vs : List Value} {n : Nat} {m₀ : Str → Option Value} {news : List (Addr × Obj)} (J : Nat → (Str → Option Value) → List (Addr × Obj) → Prop)
    (hend : EndOk prog w A h₀)
    (he : wpAny (model prog w) A (eval iter env) (fun xv s₁ => xv = .ref l ∧ ∃ m₁ tk h, s₁ = { s with heap := h, toks := tk } ∧ m₁ = m₀ ∧ Fr h₀ env.locals s₁.heap m₀ ∧ News h₀ env.locals s₁.heap news) E s)
    (hm : (l, listOf vs.toArray n) ∈ news) (h0 : J 0 m₀ news)
    (turn : ∀ i v m₁ news₁ I it h tk, vs[i]? = some v → it.cls = .type "list_iterator" → J i m₁ news₁ → (l, listOf vs.toArray n) ∈ news₁ → (∀ p ∈ news₁, p.1 ≠ I) → Fr h₀ env.locals h m₁ → News h₀ env.locals h ((I, it) :: news₁) →
      wpAny (model prog w) A (assign target env v) (fun _ s₁ => wpAny (model prog w) A (execs body env)
        (UnrPost h₀ env.locals { s with heap := h, toks := tk } I it (fun m' n' => (l, listOf vs.toArray n) ∈ n' ∧ J (i + 1) m' n') Q) E s₁) E { s with heap := h, toks := tk })
    (done : ∀ m₁ news₁ h tk, J vs.length m₁ news₁ → Fr h₀ env.locals h m₁ → News h₀ env.locals h news₁ → Q .next { s with heap := h, toks := tk })
    (hs : ∀ x, foldedSetIterable iter env x = pure x := by intro _; rfl)
    (hE : PassesOwn (model prog w) A env E := by passes_own) :
    wpAny (model prog w) A (exec (.For target iter body [] pos) env) Q E s := by
  refine wpAny_For (wpAny_mono he (fun xv s₁ h₁ => ?_) fun _ _ e => e) hs
  obtain ⟨rfl, m₁, tk₁, hh₁, rfl, rfl, F, N⟩ := h₁
  dsimp only at F N
  have hl := News.isList N hm
  refine wpAny_pyIter_list (s := { s with heap := hh₁, toks := tk₁ }) hl ?_
  have hlt : l < hh₁.objs.size := Heap.lt_size (N _ hm).1
  have hnew := next_is_new F
  have hLI : env.locals ≠ hh₁.objs.size := Nat.ne_of_lt F.ns.lt
  refine codeAny_forLoop_any
    (fun k s' => ∃ h' tk m' news' i, s' = { s with heap := h', toks := tk } ∧ i ≤ vs.length ∧ k = vs.length + 1 - i ∧ h'.IsListIter hh₁.objs.size l i ∧ Fr h₀ env.locals h' m' ∧ News h₀ env.locals h' news' ∧ (l, listOf vs.toArray n) ∈ news' ∧ (∀ p ∈ news', p.1 ≠ hh₁.objs.size) ∧ J i m' news') ?_ (vs.length + 1)
    ⟨_, tk₁, m₁, news, 0, rfl, Nat.zero_le _, rfl, ⟨_, Heap.get?_push_size _ rfl, rfl, rfl⟩, F.push _, fun p hp => ⟨Heap.get?_push_of_some _ (N p hp).1, (N p hp).2⟩, hm, fun p hp => Nat.ne_of_lt (Heap.lt_size (N p hp).1), h0⟩
  rintro k s' ⟨h', tk, m', news', i, rfl, hi, rfl, hit, F', N', hm', hoff, hJ⟩
  by_cases hlt' : i < vs.length
  · have hx : vs.toArray[i]? = some vs[i] := by simp [hlt']
    refine wpAny_pyNext_list_item hit (News.isList N' hm') hx fun h₂ hit₂ hs₂ => ?_
    have F₂ := LCg.fr_but F' (fun b o hb e => hs₂.extBut b o (by simpa using hb) e) hLI hnew
    have N₂ := LCg.news_but N' (fun b o hb e => hs₂.extBut b o (by simpa using hb) e) hoff
    refine letGo_iter hit₂ ?_
    obtain ⟨it, hit0, hitc, hitd⟩ := hit₂
    have N₃ : News h₀ env.locals h₂ ((hh₁.objs.size, it) :: news') := fun p hp => by
      rcases List.mem_cons.mp hp with rfl | hp
      · exact ⟨hit0, Ne.symm hLI, hnew⟩
      · exact N₂ p hp
    refine wpAny_passesOwn hE (wpAny_mono (turn i vs[i] m' news' _ it h₂ tk (by simp [hlt']) hitc hJ hm' hoff F₂ N₃) (fun _ s₂ h₂' => wpAny_passesOwn hE (wpAny_mono h₂' (fun f s₃ h₃ => ?_) fun _ _ e => e)) fun _ _ e => e)
    have fin : UnrEnd h₀ env.locals { s with heap := h₂, toks := tk } hh₁.objs.size it (fun m' n' => (l, listOf vs.toArray n) ∈ n' ∧ J (i + 1) m' n') s₃ → ∃ m, m < vs.length + 1 - i ∧ ∃ h' tk m' news' i, s₃ = { s with heap := h', toks := tk } ∧ i ≤ vs.length ∧ m = vs.length + 1 - i ∧ h'.IsListIter hh₁.objs.size l i ∧ Fr h₀ env.locals h' m' ∧ News h₀ env.locals h' news' ∧ (l, listOf vs.toArray n) ∈ news' ∧ (∀ p ∈ news', p.1 ≠ hh₁.objs.size) ∧ J i m' news' := by
      rintro ⟨h₄, tk₄, m₄, news₄, rfl, F₄, N₄, o₄, hm₄, hJ₄⟩
      exact ⟨vs.length + 1 - (i + 1), by omega, h₄, tk₄, m₄, news₄, i + 1, rfl, hlt', rfl, ⟨it, (N₄ _ (List.mem_cons_self ..)).1, hitc, hitd⟩, F₄, fun p hp => N₄ p (List.mem_cons_of_mem _ hp), hm₄, o₄, hJ₄⟩
    cases f with
    | ret v => exact h₃
    | brk => exact h₃
    | next => exact fin h₃
    | cont => exact fin h₃
  · obtain rfl : i = vs.length := by omega
    refine hend _ _ _ _ _ _ _ F'.keep hnew hit (News.isList N' hm') (by simp) fun h₂ hs₂ => ?_
    have F₂ := LCg.fr_but F' (fun b o hb e => hs₂ b o (by simpa using hb) e) hLI hnew
    have N₂ := LCg.news_but N' (fun b o hb e => hs₂ b o (by simpa using hb) e) hoff
    exact wpAny_passesOwn hE (wpAny_execs_nil (done _ _ _ _ hJ F₂ N₂))
end
section
variable {prog : Program} {w : World} {A : Around} {E : Value → Shared → Prop} {s : Shared} {env : Env} {h₀ : Heap} {target : Expr} {x : Str} {body : List Stmt} {Q : Flow → Shared → Prop}

def over (stored : List Str) (u m₀ : Str → Option Value) : Str → Option Value := fun z => if stored.contains z then u z else m₀ z
theorem over_eq {stored : List Str} {u m₀ : Str → Option Value} (h : ∀ z, stored.contains z = false → u z = m₀ z) : u = over stored u m₀ := by
  funext z
  unfold over
  split
  · rfl
  · exact h z (Bool.eq_false_iff.mpr ‹_›)
theorem over_self {stored : List Str} {m₀ : Str → Option Value} : m₀ = over stored m₀ m₀ := over_eq fun _ _ => rfl

theorem for_S {iter : Expr} {pos : Pos} {l : Addr} {vs : List Value} {n : Nat} {m₀ : Str → Option Value} {news : List (Addr × Obj)} (stored : List Str) (J : Nat → List (Addr × Obj) → Prop)
    (hend : EndOk prog w A h₀)
    (he : wpAny (model prog w) A (eval iter env) (fun xv s₁ => xv = .ref l ∧ ∃ tk h, s₁ = { s with heap := h, toks := tk } ∧ Fr h₀ env.locals h m₀ ∧ News h₀ env.locals h news) E s)
    (hm : (l, listOf vs.toArray n) ∈ news) (h0 : J 0 news)
    (turn : ∀ i v u news₁ I it h tk, vs[i]? = some v → it.cls = .type "list_iterator" → J i news₁ → (l, listOf vs.toArray n) ∈ news₁ → (∀ p ∈ news₁, p.1 ≠ I) → Fr h₀ env.locals h (over stored u m₀) → News h₀ env.locals h ((I, it) :: news₁) →
      wpAny (model prog w) A (assign target env v) (fun _ s₁ => wpAny (model prog w) A (execs body env)
        (UnrPost h₀ env.locals { s with heap := h, toks := tk } I it (fun m' n' => (l, listOf vs.toArray n) ∈ n' ∧ (∀ z, stored.contains z = false → m' z = m₀ z) ∧ J (i + 1) n') Q) E s₁) E { s with heap := h, toks := tk })
    (done : ∀ u news₁ h tk, J vs.length news₁ → Fr h₀ env.locals h (over stored u m₀) → News h₀ env.locals h news₁ → Q .next { s with heap := h, toks := tk })
    (hs : ∀ x, foldedSetIterable iter env x = pure x := by intro _; rfl)
    (hE : PassesOwn (model prog w) A env E := by passes_own) :
    wpAny (model prog w) A (exec (.For target iter body [] pos) env) Q E s := by
  refine for_J (l := l) (vs := vs) (n := n) (m₀ := m₀) (news := news) (fun i m' n' => (∀ z, stored.contains z = false → m' z = m₀ z) ∧ J i n') hend
    (wpAny_mono he (fun xv s₁ ⟨a, tk, h, b, c, d⟩ => ⟨a, _, tk, h, b, rfl, by subst b; exact c, by subst b; exact d⟩) fun _ _ e => e) hm ⟨fun _ _ => rfl, h0⟩ ?_ ?_ hs hE
  · intro i v m₁ news₁ I it h tk hv hit ⟨hk, hJ⟩ hl hoff F N
    rw [over_eq hk] at F
    exact turn i v m₁ news₁ I it h tk hv hit hJ hl hoff F N
  · intro m₁ news₁ h tk ⟨hk, hJ⟩ F N
    rw [over_eq hk] at F
    exact done m₁ news₁ h tk hJ F N

theorem iter_R {r : Addr} {a₀ b₀ : Int} {t₀ u₀ v₀ : Tok} {n : Nat} {m₀ : Str → Option Value} {news : List (Addr × Obj)} (stored : List Str) (J : Nat → List (Addr × Obj) → Prop)
    (hh : A.handled = none) (hr : IsRange s.heap r a₀ b₀ 1 t₀ u₀ v₀) (hsmall : Builtin.Range.small a₀ b₀ 1 = true) (hn : Builtin.Range.rangeSize a₀ b₀ 1 = (n : Int)) (F : Fr h₀ env.locals s.heap m₀) (N : News h₀ env.locals s.heap news)
    (h0 : J 0 news) (_hx : stored.contains x = true)
    (turn : ∀ i t u news₁ I it h tk, i < n → J i news₁ → (∀ p ∈ news₁, p.1 ≠ I) → Fr h₀ env.locals h (fun y => if y = x then some (.int (a₀ + (i : Int)) t) else over stored u m₀ y) → News h₀ env.locals h ((I, it) :: news₁) →
      wpAny (model prog w) A (execs body env) (UnrPost h₀ env.locals { s with heap := h, toks := tk } I it (fun m' n' => (∀ z, stored.contains z = false → m' z = m₀ z) ∧ J (i + 1) n') Q) E { s with heap := h, toks := tk })
    (done : ∀ u news₁ h tk, J n news₁ → Fr h₀ env.locals h (over stored u m₀) → News h₀ env.locals h news₁ → Q .next { s with heap := h, toks := tk }) :
    wpAny (model prog w) A (pyIter (.ref r)) (fun it s₂ => LoopAtV prog w A h₀ env x body Q E it s₂) E s := by
  refine iter_rangeUnr hh hr hsmall hn F N fun I hI => ?_
  have key : ∀ k i m' n', i + k = n → (∀ z, stored.contains z = false → m' z = m₀ z) → (∀ p ∈ n', p.1 ≠ I) → J i n' → RangeRest prog w A E h₀ env x body Q s I a₀ n k i m' n' := by
    intro k
    induction k with
    | zero =>
      intro i m' n' hi hm' _ hJ
      obtain rfl : i = n := by omega
      refine RangeRest.zero fun h tk F' N' => ?_
      rw [over_eq hm'] at F'
      exact done _ _ _ _ hJ F' N'
    | succ k ih =>
      intro i m' n' hi hm' hoff hJ
      refine RangeRest.succ fun t h tk F' N' => ?_
      have e : (fun y => if y = x then some (Value.int (a₀ + (i : Int)) t) else m' y) = fun y => if y = x then some (Value.int (a₀ + (i : Int)) t) else over stored m' m₀ y := by rw [← over_eq hm']
      rw [e] at F'
      refine wpAny_mono (turn i t m' n' I _ h tk (by omega) hJ hoff F' N') (fun f s₂ h₂ => ?_) fun _ _ e => e
      have fin : UnrEnd h₀ env.locals { s with heap := h, toks := tk } I (itR (a₀ + ((i + 1 : Nat) : Int)) ((n : Int) - ((i + 1 : Nat) : Int))) (fun m' n' => (∀ z, stored.contains z = false → m' z = m₀ z) ∧ J (i + 1) n') s₂ →
          UnrEnd h₀ env.locals { s with heap := h, toks := tk } I (itR (a₀ + ((i + 1 : Nat) : Int)) ((n : Int) - ((i + 1 : Nat) : Int))) (RangeRest prog w A E h₀ env x body Q s I a₀ n k (i + 1)) s₂ := by
        rintro ⟨h₄, tk₄, m₄, news₄, e₄, F₄, N₄, o₄, hm₄, hJ₄⟩
        exact ⟨h₄, tk₄, m₄, news₄, e₄, F₄, N₄, o₄, ih (i + 1) m₄ news₄ (by omega) hm₄ o₄ hJ₄⟩
      cases f with
      | ret v => exact h₂
      | brk => exact h₂
      | next => exact fin h₂
      | cont => exact fin h₂
  exact key n 0 m₀ news (by omega) (fun _ _ => rfl) (fun p hp => Nat.ne_of_lt (hI p hp)) h0
end

section
variable {prog : Program} {w : World} {A : Around} {E : Value → Shared → Prop} {s₁ : Shared} {h₀ : Heap} {L : Addr} {m : Str → Option Value} {env : Env} {elt : Expr} {x : Str} {scope : Scope} {cl : List (Str × Addr)} {Fin : Shared → List Value → List (Addr × Obj) → Prop}
end

def Stop (p : Prop) : Prop := p
theorem Stop.to {p : Prop} (h : Stop p) : p := h
theorem Stop.of {p : Prop} (h : p) : Stop p := h

/-- what a read-only call leaves: all of the ledger -/
def Grows (a b : List (Addr × Obj)) : Prop := ∀ p ∈ a, p ∈ b
theorem Grows.refl {a : List (Addr × Obj)} : Grows a a := fun _ h => h
theorem Grows.cons {a b : List (Addr × Obj)} {p : Addr × Obj} (G : Grows a b) : Grows a (p :: b) := fun q hq => .tail _ (G q hq)
theorem Grows.trans {a b c : List (Addr × Obj)} (x : Grows a b) (y : Grows b c) : Grows a c := fun p hp => y p (x p hp)
end
section
section
variable {prog : Program} {w : World} {A : Around} {E : Value → Shared → Prop} {s : Shared} {h₀ : Heap}
theorem entry_unchain : entryFor table "proto.unchain" = some Builtin.«proto.unchain» := entryFor_of_tree (by kernel_rfl)

/-- an exception that is being handled, itself without a context -/
def Handled (A : Around) (h : Heap) : Prop := ∃ x ox vs, A.handled = some (.ref x) ∧ h.get? x = some ox ∧ ox.data = .fields vs ∧ vs[2]? = some .none

theorem raiseNew_some {α : Type} {Q : α → Shared → Prop} {a x : Addr} {oa ox : Obj} {vs ws : Array Value} (hh : A.handled = some (.ref x)) (hne : x ≠ a) (hx : s.heap.get? x = some ox) (hxd : ox.data = .fields vs) (hx2 : vs[2]? = some .none)
    (ha : s.heap.get? a = some oa) (had : oa.data = .fields ws) (hsz : 2 < ws.size) (h : E (.ref a) { s with heap := s.heap.update a (Obj.mapFields (·.setIfInBounds 2 (.ref x))) }) :
    wpAny (model prog w) A (raiseNew (.ref a) : Sem α) Q E s := by
  simp only [raiseNew]
  refine wpAny_bind (wpAny_handled ?_)
  rw [hh]
  dsimp only
  have hn : (Value.ref x != Value.ref a) = true := by simpa using hne
  rw [if_pos hn]
  refine wpAny_bind (wpAny_holding (wpAny_runValue (codeAny_builtin entry_unchain ?_)))
  unfold Builtin.«proto.unchain»
  refine wpAny_bind (wpAny_field hx hxd hx2 ?_)
  rw [if_pos (by decide)]
  refine wpAny_bind (wpAny_pure (wpAny_pure ?_))
  show wpAny _ _ (updateField a 2 (.ref x) >>= fun _ => throw (.ref a)) _ _ _
  refine wpAny_bind ?_
  unfold updateField
  refine wpAny_bind (wpAny_load ha ?_)
  rw [had]
  dsimp only
  rw [if_pos hsz]
  exact wpAny_update ha (wpAny_throw h)
theorem EndOk.ofSome (hH : Handled A h₀) : EndOk prog w A h₀ := by
  obtain ⟨x, ox, vsx, hh, hx, hxd, hx2⟩ := hH
  intro s it l i items Q E keep hnew hit hl hxi hQ
  obtain ⟨o, ho, hc, hd⟩ := id hit
  obtain ⟨ol, hol, _, nl, hdl⟩ := hl
  have hxit : x ≠ it := fun q => by rw [q, hnew] at hx; cases hx
  have hxs := keep _ _ hx
  unfold pyNext
  refine wpAny_bind (wpAny_attempt (wpAny_callSpecial?_slot (name := Str.ofString "__next__") hit.typeIs slot_listiter_next
    (wpAny_call_entry slot_listiter_next hit.typeIs entry_listiter_next ?_ (args_listiter_next _))))
  show wpAny _ _ (field (.ref it) 0 >>= _) _ _ s
  refine wpAny_bind (wpAny_field ho hd (x := .ref l) rfl ?_)
  rw [if_neg (show ¬ ((Value.ref l == Value.none) = true) from Bool.false_ne_true)]
  refine wpAny_bind (wpAny_field ho hd (x := .int i 0) rfl ?_)
  refine wpAny_bind (wpAny_seqItems hol hdl ?_)
  simp only [Int.toNat_natCast, hxi]
  refine wpAny_bind (wpAny_rule (wpAny_bind (wpAny_setField ho hd (by simp) ?_)))
  show wpAny _ _ (newExc (.type "StopIteration") [] >>= _) _ _ _
  refine wpAny_bind ?_
  simp only [newExc, newTuple]
  refine wpAny_bind (wpAny_newObj_type ?_ (by size_fits))
  refine wpAny_bind (m := firstArgMember _ _) (wpAny_of_eq (a := Value.none) (by first | rfl | (simp only [firstArgMember]; rfl)) ?_)
  refine wpAny_newObj_type ?_ (by size_fits)
  have hx3 : (((s.heap.update it (Obj.mapFields fun x => x.setIfInBounds 0 Value.none)).push { cls := .type "tuple", data := .seq ([] : List Value).toArray })).get? x = some ox :=
    Heap.get?_push_of_some _ ((Heap.get?_update_other _ _ (Ne.symm hxit)).trans hxs)
  refine raiseNew_some hh (Nat.ne_of_lt (Heap.lt_size hx3)) (Heap.get?_push_of_some _ hx3) hxd hx2 (Heap.get?_push_size _ rfl) rfl (by rw [Array.size_append]; exact Nat.lt_of_lt_of_le (by decide) (Nat.le_add_right 6 _)) ?_
  refine wpAny_bind (wpAny_isInstance (T := "StopIteration") (b := true) ⟨_, Heap.get?_update_self _ (Heap.get?_push_size _ rfl) rfl, rfl⟩ isSubtype_stop ?_)
  refine wpAny_pure (hQ _ fun b ob hb e => ?_)
  have e3 := Heap.get?_push_of_some { cls := .type "tuple", data := .seq ([] : List Value).toArray } (((Heap.SameBut.update s.heap it (Obj.mapFields fun x => x.setIfInBounds 0 Value.none)).extBut) b ob hb e)
  refine (Heap.get?_update_other _ _ (Ne.symm (Nat.ne_of_lt (Heap.lt_size e3)))).trans (Heap.get?_push_of_some _ e3)
end
end
section
section
variable {prog : Program} {w : World} {A : Around} {E : Value → Shared → Prop} {s : Shared} {env : Env} {h₀ : Heap} {L : Addr} {m : Str → Option Value} {target elt iter : Expr} {scope : Scope} {cl : List (Str × Addr)} {pos : Pos}

theorem cl_turns {it acc : Value} {cenv : Env} {R : Result → Shared → Prop} (I : Nat → Shared → Prop)
    (turn : ∀ n s, I n s → wpAny (model prog w) A (pyNext it) (fun r s₁ => match r with
      | none => R (.ok .next) s₁
      | some v => wpAny (model prog w) A (letOwnedTupleGo target it v) (fun _ s₁' => wpAny (model prog w) A (assign target cenv v) (fun _ s₂ =>
          wpAny (model prog w) A (eval elt cenv) (fun x s₄ =>
              wpAny (model prog w) A (call (.builtin "list.append") [acc, x]) (fun _ s₅ => ∃ m, m < n ∧ I m s₅) (notedBy (model prog w) A cenv fun e s' => R (.error e) s') s₄) (notedBy (model prog w) A cenv fun e s' => R (.error e) s') s₂)
          (notedBy (model prog w) A cenv fun e s' => R (.error e) s') s₁') (notedBy (model prog w) A cenv fun e s' => R (.error e) s') s₁) (notedBy (model prog w) A cenv fun e s' => R (.error e) s') s)
    (n : Nat) (h : I n s) : codeAny (model prog w) A (.compLoop (.ListComp elt [⟨target, iter, [], 0⟩] scope pos) 0 it acc cenv) R s := by
  refine codeAny_loop rfl I (fun n s hI => ?_) n h
  show wpAny _ A ((compTurn (.ListComp elt [⟨target, iter, [], 0⟩] scope pos) 0 it acc cenv).onRaise (fun x => do noteFrame x cenv; theTreesLotGoes x)) _ _ s
  refine wpAny_noted ?_
  rw [compTurn_list]
  refine wpAny_bind (wpAny_standAt (wpAny_bind (wpAny_mono (turn n s hI) (fun r s₁ h₁ => ?_) fun _ _ h' => h')))
  cases r with
  | none => exact wpAny_pure h₁
  | some v =>
    refine wpAny_bind (wpAny_mono h₁ (fun _ s₁' h₁' => ?_) fun _ _ h' => h')
    refine wpAny_bind (wpAny_mono h₁' (fun _ s₂ h₂ => wpAny_bind (wpAny_mono (wpAny_tests_nil (Q := fun ok s₃ => ok = true ∧ s₃ = s₂) ⟨rfl, rfl⟩) (fun ok s₃ h₃ => ?_) fun _ _ h' => h')) fun _ _ h' => h')
    obtain ⟨rfl, rfl⟩ := h₃
    exact wpAny_bind (wpAny_bind (wpAny_mono h₂ (fun x s₄ h₄ => wpAny_bind (wpAny_mono h₄ (fun _ s₅ h₅ => wpAny_pure (wpAny_pure ⟨rfl, h₅⟩)) fun _ _ h' => h')) fun _ _ h' => h'))

open LCg in
theorem comp_core {s₁ : Shared} {ax : Addr} {vs : List Value} {k : Nat} {news : List (Addr × Obj)} {RR : Value → Addr → Result → Shared → Prop}
    (J : Nat → List Value → List (Addr × Obj) → Prop) (Bd : Nat → Value → (Str → Option Value) → Prop)
    (hend : EndOk prog w A h₀) (F : Fr h₀ L s₁.heap m) (N : News h₀ L s₁.heap news) (hm : (ax, listOf vs.toArray k) ∈ news) (hsz : vs.length ≤ sizeLine)
    (hcell : ∀ y ∈ scope.names, y.2 ≠ .cell) (hkind : scope.kind = .function) (h0 : J 0 [] news)
    (asg : ∀ i v ys news' C m₀ (s : Shared) (Q : Unit → Shared → Prop) (E' : Value → Shared → Prop), vs[i]? = some v → J i ys news' → Fr h₀ L s.heap m → News h₀ L s.heap news' → s.heap.Ns C m₀ → (∀ p ∈ news', p.1 ≠ C) → C ≠ L → h₀.get? C = none →
       (∀ h₃ m₃ tk, (∀ b o, b ≠ C → s.heap.get? b = some o → h₃.get? b = some o) → h₃.Ns C m₃ → Bd i v m₃ → Q () { s with heap := h₃, toks := tk }) → wpAny (model prog w) A (assign target (compEnvC scope cl C env) v) Q E' s)
    (turn : ∀ i v ys news₁ I oI C oC D m₂ h tk (E' : Value → Shared → Prop), vs[i]? = some v → J i ys news₁ → (ax, listOf vs.toArray k) ∈ news₁ → NsObj oC m₂ → Bd i v m₂ → Fr h₀ L h m → News h₀ L h ((I, oI) :: (C, oC) :: (D, lst ys) :: news₁) → Off3 I C D news₁ → ((@Ne Nat I C) ∧ (@Ne Nat I D) ∧ (@Ne Nat C D)) →
      wpAny (model prog w) A (eval elt (compEnvC scope cl C env)) (CompEnd h₀ L m { s₁ with heap := h, toks := tk } I oI C oC D (lst ys) (fun n' => (ax, listOf vs.toArray k) ∈ n') (fun y news' => J (i + 1) (ys ++ [y]) news')) E' { s₁ with heap := h, toks := tk })
    (hRR : ∀ D C h tk m' ys news', Fr h₀ L h m → News h₀ L h ((D, lst ys) :: news') → Off1 D news' → h.Ns C m' → h₀.get? C = none → h₀.get? D = none → C ≠ L → D ≠ L → C ≠ D → (∀ p ∈ news', p.1 ≠ C) → J vs.length ys news' → RR (.ref D) C (.ok .next) { s₁ with heap := h, toks := tk }) :
    wpAny (model prog w) A (pyIter (.ref ax)) (fun it s₂ => wpAny (model prog w) A (newList []) (fun acc s₃ => wpAny (model prog w) A (newFunctionEnv scope env.globals cl [] env.qual none .none (some env)) (fun cenv s₄ =>
      codeAny (model prog w) A (.compStart (.ListComp elt [⟨target, iter, [], 0⟩] scope pos) 0 it acc { cenv with scope := relabel scope env }) (RR acc cenv.locals) s₄) E s₃) E s₂) E s₁ := by
  have hl := News.isList N hm
  refine wpAny_pyIter_list hl ?_
  generalize hH1 : s₁.heap.push { cls := .type "list_iterator", data := .fields #[.ref ax, .int 0 0] } = H1
  have hit0 : H1.IsListIter s₁.heap.objs.size ax 0 := by rw [← hH1]; exact ⟨_, Heap.get?_push_size _ rfl, rfl, rfl⟩
  have up1 : ∀ b o, s₁.heap.get? b = some o → H1.get? b = some o := fun b o e => by rw [← hH1]; exact Heap.get?_push_of_some _ e
  have sz1 : H1.objs.size = s₁.heap.objs.size + 1 := by rw [← hH1, Heap.size_push]
  have axlt : ax < s₁.heap.objs.size := Heap.lt_size (N _ hm).1
  refine wpAny_newObj_type (wpAny_newFunctionEnv hcell (by intro y hy; simp at hy) (fun h₁ hns₁ hsb₁ => ?_) hkind)
  dsimp only at hns₁ hsb₁ ⊢
  generalize hH2 : H1.push { cls := .type "list", dict := none, data := .seq ([] : List Value).toArray } = H2 at hns₁ hsb₁ ⊢
  generalize hI : s₁.heap.objs.size = I at *
  generalize hD : H1.objs.size = D at *
  generalize hCC : H2.objs.size = C at *
  have hC : C = I + 1 + 1 := by rw [← hCC, ← hH2, Heap.size_push, hD, sz1]
  have hIC : I ≠ C := by rw [hC]; exact Nat.ne_of_lt (Nat.lt_succ_of_lt (Nat.lt_succ_self _))
  have hID : I ≠ D := by rw [sz1]; exact Nat.ne_of_lt (Nat.lt_succ_self _)
  have hCD : C ≠ D := by rw [sz1, hC]; exact Ne.symm (Nat.ne_of_lt (Nat.lt_succ_self _))
  have low : ∀ b, b < I → b ≠ C ∧ b ≠ D ∧ b ≠ I := fun b hb => ⟨by rw [hC]; exact Nat.ne_of_lt (Nat.lt_succ_of_lt (Nat.lt_succ_of_lt hb)), by rw [sz1]; exact Nat.ne_of_lt (Nat.lt_succ_of_lt hb), Nat.ne_of_lt hb⟩
  have old2 : ∀ b o, H1.get? b = some o → h₁.get? b = some o := fun b o e => hsb₁.extBut b o (by
      have := Heap.lt_size e; rw [hD] at this; rw [hC, ← sz1]; exact Nat.ne_of_lt (Nat.lt_succ_of_lt this)) (Heap.get?_push_of_some _ (hH2 ▸ Heap.get?_push_of_some _ e))
  have old : ∀ b o, s₁.heap.get? b = some o → h₁.get? b = some o := fun b o e => old2 b o (up1 b o e)
  have hacc : h₁.get? D = some (lst []) := hsb₁.extBut _ _ (Ne.symm hCD) (Heap.get?_push_of_some _ (hH2 ▸ hD ▸ Heap.get?_push_size _ rfl))
  have hitI : h₁.IsListIter I ax 0 := by obtain ⟨o, e, r⟩ := hit0; exact ⟨o, old2 _ _ e, r⟩
  have fresh₀ : ∀ a, I ≤ a → h₀.get? a = none := fun a ha => by
    cases e : h₀.get? a with
    | none => rfl
    | some o' => have := Heap.lt_size (F.keep a o' e); rw [hI] at this; exact absurd this (Nat.not_lt.mpr ha)
  have hI₀ := fresh₀ I (Nat.le_refl _)
  have hD₀ := fresh₀ D (by rw [sz1]; exact Nat.le_succ _)
  have hC₀ := fresh₀ C (by rw [hC]; exact Nat.le_succ_of_le (Nat.le_succ _))
  have hLlt : L < I := hI ▸ F.ns.lt
  have hDL : D ≠ L := Ne.symm (low L hLlt).2.1
  have hCL : C ≠ L := Ne.symm (low L hLlt).1
  have hLI : L ≠ I := (low L hLlt).2.2
  have off₀ : Off3 I C D news := Off3.of fun p hp => by
    have := hI ▸ Heap.lt_size (N p hp).1
    exact ⟨(low _ this).2.2, (low _ this).1, (low _ this).2.1⟩
  have loop : ∀ s₃ : Shared, s₃ = { s₁ with heap := h₁, toks := s₁.toks + ([] : List (Str × Value)).length } →
      codeAny (model prog w) A (.compLoop (.ListComp elt [⟨target, iter, [], 0⟩] scope pos) 0 (.ref I) (.ref D) (compEnvC scope cl C env)) (RR (.ref D) C) s₃ := by
    rintro s₃ rfl
    refine cl_turns
      (fun k' s' => ∃ h' tk i ys m' news', s' = { s₁ with heap := h', toks := tk } ∧ i ≤ vs.length ∧ k' = vs.length + 1 - i ∧ ys.length = i ∧ h'.IsListIter I ax i ∧ Fr h₀ L h' m ∧ h'.Ns C m' ∧ News h₀ L h' ((D, lst ys) :: news') ∧
        Off3 I C D news' ∧ (ax, listOf vs.toArray k) ∈ news' ∧ J i ys news') ?_ (vs.length + 1)
      ⟨h₁, _, 0, [], _, news, rfl, Nat.zero_le _, rfl, rfl, hitI, F.keeps old, hns₁, fun p hp => ?_, off₀, hm, h0⟩
    · rintro k' s' ⟨h', tk, i, ys, m', news', rfl, hi, rfl, hyl, hit, F', hn', N', off', hm', hJ⟩
      have off3 := off'.mem
      have hl' := News.isList N' (List.mem_cons_of_mem _ hm')
      have hoffI : ∀ p ∈ (D, lst ys) :: news', p.1 ≠ I := fun p hp => by
        rcases List.mem_cons.mp hp with rfl | hp
        · exact Ne.symm hID
        · exact (off3 p hp).1
      by_cases hlt : i < vs.length
      · refine wpAny_pyNext_list_item hit hl' (x := vs[i]) (by simp [hlt]) fun h₂ hit₂ hs₂ => ?_
        refine letGo_iter hit₂ ?_
        have hk₂ : ∀ b o, b ≠ I → h'.get? b = some o → h₂.get? b = some o := fun b o hb e => hs₂.extBut b o hb e
        have F₂ := fr_but F' (fun b o hb e => hk₂ b o (by simpa using hb) e) hLI hI₀
        have N₂ := news_but N' (fun b o hb e => hk₂ b o (by simpa using hb) e) hoffI
        refine asg i vs[i] ys news' C m' _ _ _ (by simp [hlt]) hJ F₂ (fun p hp => N₂ p (List.mem_cons_of_mem _ hp)) (hn'.at' fun o e => hk₂ _ o (Ne.symm hIC) e) (fun p hp => (off3 p hp).2.1) hCL hC₀ fun h₃ m₃ tk₃ old3 hn₃ hbd => ?_
        dsimp only at old3
        obtain ⟨oI, heI, hcI, hdI⟩ : ∃ o, h₃.get? I = some o ∧ o.cls = .type "list_iterator" ∧ o.data = .fields #[.ref ax, .int (i + 1 : Nat) 0] := by
          obtain ⟨o, e, r1, r2⟩ := hit₂
          exact ⟨o, old3 _ _ hIC e, r1, r2⟩
        obtain ⟨oC, heC, hoC⟩ := ns_obj hn₃
        have hLC : L ≠ C := Ne.symm hCL
        have F₃ : Fr h₀ L h₃ m := fr_but (I := C) F₂ (fun b o hb e => old3 b o (by simpa using hb) e) hLC hC₀
        have N₃ : News h₀ L h₃ ((I, oI) :: (C, oC) :: (D, lst ys) :: news') := fun p hp => by
          rcases List.mem_cons.mp hp with rfl | hp
          · exact ⟨heI, Ne.symm hLI, hI₀⟩
          · rcases List.mem_cons.mp hp with rfl | hp
            · exact ⟨heC, hCL, hC₀⟩
            · have z := N₂ p hp
              refine ⟨old3 _ _ ?_ z.1, z.2⟩
              rcases List.mem_cons.mp hp with rfl | hp
              · exact Ne.symm hCD
              · exact (off3 p hp).2.1
        refine wpAny_mono (turn i vs[i] ys news' I oI C oC D m₃ h₃ tk₃ _ (by simp [hlt]) hJ hm' hoC hbd F₃ N₃ off' ⟨hIC, hID, hCD⟩) (fun y s₄ h₄ => ?_) fun _ _ e => e
        obtain ⟨h₄, tk₄, news₄, rfl, F₄, N₄, off₄, hm₄, R₄⟩ := h₄
        have zI := (N₄ (I, oI) List.mem_cons_self).1
        have zC := (N₄ (C, oC) (List.mem_cons_of_mem _ List.mem_cons_self)).1
        have zD := (N₄ (D, lst ys) (List.mem_cons_of_mem _ (List.mem_cons_of_mem _ List.mem_cons_self))).1
        have N₄' : News h₀ L h₄ news₄ := fun p hp => N₄ p (List.mem_cons_of_mem _ (List.mem_cons_of_mem _ (List.mem_cons_of_mem _ hp)))
        refine append_at (hsz := by show ys.toArray.size ≤ sizeLine; rw [List.size_toArray, hyl]; exact Nat.le_trans hi hsz) zD fun h₅ hs₅ hD₅ => ?_
        have off4 := off₄.mem
        refine ⟨vs.length + 1 - (i + 1), by omega, h₅, tk₄, i + 1, ys ++ [y], _, news₄, rfl, hlt, rfl, by rw [List.length_append, List.length_singleton, hyl], ⟨oI, hs₅.extBut _ _ hID zI, hcI, hdI⟩, F₄.change hs₅ hDL hD₀,
          (hoC.ns zC).sameBut hs₅ hCD, fun p hp => ?_, off₄, hm₄, R₄⟩
        rcases List.mem_cons.mp hp with rfl | hp
        · exact ⟨hD₅.trans (congrArg some (lst_snoc ys y)), hDL, hD₀⟩
        · exact ⟨hs₅.extBut _ _ (off4 p hp).2.2 (N₄' p hp).1, (N₄' p hp).2⟩
      · obtain rfl : i = vs.length := Nat.le_antisymm hi (Nat.not_lt.mp hlt)
        refine hend _ _ _ _ _ _ _ F'.keep hI₀ hit hl' (by simp) fun h₂ hs₂ => ?_
        exact hRR _ _ h₂ tk _ ys news' (fr_but F' (fun b o hb e => hs₂ b o (by simpa using hb) e) hLI hI₀) (news_but N' (fun b o hb e => hs₂ b o (by simpa using hb) e) hoffI)
          off'.one (hn'.at' fun o e => hs₂ _ o (Ne.symm hIC) e) hC₀ hD₀ hCL hDL hCD (fun p hp => (off3 p hp).2.1) hJ
    · rcases List.mem_cons.mp hp with rfl | hp
      · exact ⟨hacc, hDL, hD₀⟩
      · exact ⟨old _ _ (N p hp).1, (N p hp).2⟩
  exact codeAny_compStart_list (loop _ rfl) (wpAny_pyIter_listiter hitI (loop _ rfl))

theorem off1_mem {D : Addr} : ∀ {l : List (Addr × Obj)}, LCg.Off1 D l → ∀ p ∈ l, p.1 ≠ D
  | [], _, _, h => nomatch h
  | _ :: _, x, p, h => by
    rcases List.mem_cons.mp h with rfl | h
    · exact x.1
    · exact off1_mem x.2 p h
open LCg in
theorem lc_eval {ax : Addr} {vs : List Value} {k : Nat} {news : List (Addr × Obj)} {Q : Value → Shared → Prop}
    (J : Nat → List Value → List (Addr × Obj) → Prop) (Bd : Nat → Value → (Str → Option Value) → Prop)
    (hend : EndOk prog w A h₀)
    (he : wpAny (model prog w) A (eval iter env) (fun xv s₁ => xv = .ref ax ∧ ∃ tk h, s₁ = { s with heap := h, toks := tk } ∧ Fr h₀ L h m ∧ News h₀ L h news) E s)
    (hm : (ax, listOf vs.toArray k) ∈ news) (hsz : vs.length ≤ sizeLine)
    (hclos : closureFor scope env = pure cl) (hcell : ∀ y ∈ scope.names, y.2 ≠ .cell) (hkind : scope.kind = .function)
    (hnames : ∀ y ∈ scope.names, y.2 = .local → scope.names.lookup y.1 = some .local) (h0 : J 0 [] news)
    (asg : ∀ i v ys news' C m₀ (s : Shared) (Q : Unit → Shared → Prop) (E' : Value → Shared → Prop), vs[i]? = some v → J i ys news' → Fr h₀ L s.heap m → News h₀ L s.heap news' → s.heap.Ns C m₀ → (∀ p ∈ news', p.1 ≠ C) → C ≠ L → h₀.get? C = none →
       (∀ h₃ m₃ tk, (∀ b o, b ≠ C → s.heap.get? b = some o → h₃.get? b = some o) → h₃.Ns C m₃ → Bd i v m₃ → Q () { s with heap := h₃, toks := tk }) → wpAny (model prog w) A (assign target (compEnvC scope cl C env) v) Q E' s)
    (turn : ∀ i v ys news₁ I oI C oC D m₂ h tk (E' : Value → Shared → Prop), vs[i]? = some v → J i ys news₁ → (ax, listOf vs.toArray k) ∈ news₁ → NsObj oC m₂ → Bd i v m₂ → Fr h₀ L h m → News h₀ L h ((I, oI) :: (C, oC) :: (D, lst ys) :: news₁) → Off3 I C D news₁ → ((@Ne Nat I C) ∧ (@Ne Nat I D) ∧ (@Ne Nat C D)) →
      wpAny (model prog w) A (eval elt (compEnvC scope cl C env)) (CompEnd h₀ L m { s with heap := h, toks := tk } I oI C oC D (lst ys) (fun n' => (ax, listOf vs.toArray k) ∈ n') (fun y news' => J (i + 1) (ys ++ [y]) news')) E' { s with heap := h, toks := tk })
    (done : ∀ D ys news' h tk, J vs.length ys news' → Fr h₀ L h m → News h₀ L h ((D, listOf ys.toArray ys.length) :: news') → (∀ p ∈ news', p.1 ≠ D) → Q (.ref D) { s with heap := h, toks := tk })
    (hs : ∀ x, foldedSetIterable iter env x = pure x := by intro _; rfl) :
    wpAny (model prog w) A (eval (.ListComp elt [⟨target, iter, [], 0⟩] scope pos) env) Q E s := by
  rw [eval_ListComp]
  refine wpAny_comprehension_free (use := none) rfl hs hclos hkind hnames (wpAny_mono he (fun xv s₁ h₁ => ?_) fun _ _ e => e)
  obtain ⟨rfl, tk₁, hh₁, rfl, F, N⟩ := h₁
  refine comp_core J Bd hend F N hm hsz hcell hkind h0 asg turn ?_
  intro D C h tk m' ys news' F' N' o1 hn hC₀ hD₀ hCL hDL hCD offC fin
  refine ⟨m', hn, fun h'' hs'' => done D ys news' h'' tk fin (F'.change hs'' hCL hC₀) (fun p hp => ?_) (fun p hp => off1_mem o1 p hp)⟩
  refine ⟨hs''.extBut _ _ ?_ (N' p hp).1, (N' p hp).2⟩
  rcases List.mem_cons.mp hp with rfl | hp
  · exact Ne.symm hCD
  · exact offC p hp

open LCg in
theorem lc_asg {ax : Addr} {vs : List Value} {k : Nat} {news : List (Addr × Obj)} {Q : Flow → Shared → Prop} {y : Str} {py spos : Pos}
    (J : Nat → List Value → List (Addr × Obj) → Prop) (Bd : Nat → Value → (Str → Option Value) → Prop)
    (hend : EndOk prog w A h₀) (hLe : env.locals = L)
    (he : wpAny (model prog w) A (eval iter env) (fun xv s₁ => xv = .ref ax ∧ ∃ tk h, s₁ = { s with heap := h, toks := tk } ∧ Fr h₀ L h m ∧ News h₀ L h news) E s)
    (hm : (ax, listOf vs.toArray k) ∈ news) (hsz : vs.length ≤ sizeLine)
    (hsw : swapsWith (.ListComp elt [⟨target, iter, [], 0⟩] scope pos) (some (.Name y py)) spos.line env = pure true)
    (hclos : closureFor scope env = pure cl) (hcell : ∀ y ∈ scope.names, y.2 ≠ .cell) (hkind : scope.kind = .function)
    (hnames : ∀ y ∈ scope.names, y.2 = .local → scope.names.lookup y.1 = some .local)
    (hy : env.kindOf y = some .local) (hp : (env.scope.kind == .class || (env.scope.kind == .module && env.locals != env.globals)) = false) (h0 : J 0 [] news)
    (asg : ∀ i v ys news' C m₀ (s : Shared) (Q : Unit → Shared → Prop) (E' : Value → Shared → Prop), vs[i]? = some v → J i ys news' → Fr h₀ L s.heap m → News h₀ L s.heap news' → s.heap.Ns C m₀ → (∀ p ∈ news', p.1 ≠ C) → C ≠ L → h₀.get? C = none →
       (∀ h₃ m₃ tk, (∀ b o, b ≠ C → s.heap.get? b = some o → h₃.get? b = some o) → h₃.Ns C m₃ → Bd i v m₃ → Q () { s with heap := h₃, toks := tk }) → wpAny (model prog w) A (assign target (compEnvC scope cl C env) v) Q E' s)
    (turn : ∀ i v ys news₁ I oI C oC D m₂ h tk (E' : Value → Shared → Prop), vs[i]? = some v → J i ys news₁ → (ax, listOf vs.toArray k) ∈ news₁ → NsObj oC m₂ → Bd i v m₂ → Fr h₀ L h m → News h₀ L h ((I, oI) :: (C, oC) :: (D, lst ys) :: news₁) → Off3 I C D news₁ → ((@Ne Nat I C) ∧ (@Ne Nat I D) ∧ (@Ne Nat C D)) →
      wpAny (model prog w) A (eval elt (compEnvC scope cl C env)) (CompEnd h₀ L m { s with heap := h, toks := tk } I oI C oC D (lst ys) (fun n' => (ax, listOf vs.toArray k) ∈ n') (fun y news' => J (i + 1) (ys ++ [y]) news')) E' { s with heap := h, toks := tk })
    (done : ∀ D ys news' h tk, J vs.length ys news' → Fr h₀ L h (fun z => if z = y then some (.ref D) else m z) → News h₀ L h ((D, listOf ys.toArray ys.length) :: news') → (∀ p ∈ news', p.1 ≠ D) → Q .next { s with heap := h, toks := tk })
    (hs : ∀ x, foldedSetIterable iter env x = pure x := by intro _; rfl) :
    wpAny (model prog w) A (exec (.Assign [.Name y py] (.ListComp elt [⟨target, iter, [], 0⟩] scope pos) spos) env) Q E s := by
  subst hLe
  rw [exec_Assign_Name_used _ _ _ _ hsw]
  refine wpAny_bind (wpAny_standAt (wpAny_bind ?_))
  show wpAny _ A (do let _ ← comprehension (.ListComp elt [⟨target, iter, [], 0⟩] scope pos) scope env _ (newList []) false (eval iter env) (some (assign (.Name y py) env))) _ _ s
  refine wpAny_bind (wpAny_mono (wpAny_comprehension_free (use := some (assign (.Name y py) env)) (Q := fun _ s' => Q .next s') rfl hs hclos hkind hnames
    (wpAny_mono he (fun xv s₁ h₁ => ?_) fun _ _ e => e)) (fun _ s' hq => wpAny_pure (wpAny_pure hq)) fun _ _ e => e)
  obtain ⟨rfl, tk₁, hh₁, rfl, F, N⟩ := h₁
  refine comp_core J Bd hend F N hm hsz hcell hkind h0 asg turn ?_
  intro D C h' tk m' ys news' F' N' o1 hn hC₀ hD₀ hCL hDL hCD offC fin
  show wpAny _ A (assign (.Name y py) env (.ref D)) _ _ _
  refine wpAny_assign_Name (wpAny_storeName_local hy F'.ns (fun h₂ hn₂ hs₂ => ?_) hp)
  have hL₀ : h₀.get? env.locals = none := Heap.get?_none_of_le F'.above
  have F₂ : Fr h₀ env.locals h₂ (fun z => if z = y then some (.ref D) else m z) := ⟨hn₂, fun b o e => hs₂.extBut b o (fun q => by rw [q, hL₀] at e; cases e) (F'.keep b o e), F'.above⟩
  refine ⟨m', hn.sameBut hs₂ hCL, fun h'' hs'' => done D ys news' h'' _ fin (F₂.change hs'' hCL hC₀) (fun p hp => ?_) (fun p hp => off1_mem o1 p hp)⟩
  have z : h₂.get? p.1 = some p.2 := hs₂.extBut _ _ (N' p hp).2.1 (N' p hp).1
  refine ⟨hs''.extBut _ _ ?_ z, (N' p hp).2⟩
  rcases List.mem_cons.mp hp with rfl | hp
  · exact Ne.symm hCD
  · exact offC p hp

theorem asg_name {x : Str} {px : Pos} {C : Addr} {m₀ : Str → Option Value} {v : Value} {Q : Unit → Shared → Prop} (hns : s.heap.Ns C m₀) (hkind : scope.kind = .function) (hx : scope.names.lookup x = some .local)
    (h : ∀ h₃ m₃ tk, (∀ b o, b ≠ C → s.heap.get? b = some o → h₃.get? b = some o) → h₃.Ns C m₃ → m₃ x = some v → Q () { s with heap := h₃, toks := tk }) :
    wpAny (model prog w) A (assign (.Name x px) (compEnvC scope cl C env) v) Q E s :=
  wpAny_assign_Name (wpAny_storeName_local (lookup_relabel_local hx) hns (fun h₆ hn₆ hs₆ => h _ _ _ (fun b o hb e => hs₆.extBut b o hb e) hn₆ (by simp)) (by simp [compEnvC, relabel, hkind]))

theorem unpE_items {l : Addr} {vs : List Value} {n : Nat} {news : List (Addr × Obj)} {Q : List Value → Shared → Prop} (hend : EndOk prog w A h₀) (F : Fr h₀ L s.heap m) (N : News h₀ L s.heap news) (hm : (l, listOf vs.toArray n) ∈ news)
    (hQ : ∀ h', Heap.ExtBut s.heap.objs.size s.heap h' → Q vs { s with heap := h' }) : wpAny (model prog w) A (unpackItems (.ref l) vs.length none) Q E s := by
  have hl := News.isList N hm
  have hlt : l ≠ s.heap.objs.size := Nat.ne_of_lt (Heap.lt_size (N _ hm).1)
  unfold unpackItems
  refine wpAny_bind ?_
  unfold notIterableAtAll
  refine wpAny_bind (wpAny_specialOf hl.typeIs slot_list_iter.lookup ?_)
  refine wpAny_pure ?_
  simp only [Bool.false_eq_true, if_false]
  refine wpAny_bind (wpAny_holding (wpAny_pyIter_list hl ?_))
  refine wpAny_bind (wpAny_holding (kun_draw hlt vs.length 0 _ _ ⟨_, Heap.get?_push_size _ rfl, rfl, rfl⟩ (hl.push _) (by simp) fun h₁ hit₁ hs₁ => ?_))
  have hall : List.take vs.length (List.drop 0 vs.toArray.toList) = vs := by
    rw [List.drop_zero]; exact List.take_of_length_le (by simp)
  rw [hall]
  rw [if_neg (by simp)]
  have hl₁ : h₁.IsList l vs.toArray := (hl.push _).extBut hs₁.extBut hlt
  have hit₂ : h₁.IsListIter s.heap.objs.size l vs.length := by simpa using hit₁
  refine wpAny_bind (wpAny_holding (hend _ _ _ _ _ _ _ (fun b o e => ?_) (next_is_new F) hit₂ hl₁ (by simp) fun h₂ he₂ => ?_))
  · exact hs₁.extBut b o (fun q => by rw [q, next_is_new F] at e; cases e) (Heap.get?_push_of_some _ (F.keep b o e))
  · simp only [Option.isSome_none, Bool.false_eq_true, if_false]
    refine wpAny_pure (hQ h₂ fun b o hb e => he₂ b o hb (hs₁.extBut b o hb (Heap.get?_push_of_some _ e)))

theorem unpE {l : Addr} {vs : List Value} {n k : Nat} {news : List (Addr × Obj)} {elts : List Expr} {pos : Pos} {Q : Unit → Shared → Prop} (hend : EndOk prog w A h₀) (F : Fr h₀ L s.heap m) (N : News h₀ L s.heap news) (hm : (l, listOf vs.toArray n) ∈ news)
    (hn : (assignEach elts env).length = vs.length) (hstar : (assignEach elts env).findIdx? (·.1) = none)
    (h : ∀ h', Heap.ExtBut s.heap.objs.size s.heap h' → Fr h₀ L h' m → News h₀ L h' news → wpAny (model prog w) A (assignInOrder ((assignEach elts env).map (·.2)) vs) Q E { s with heap := h' }) :
    wpAny (model prog w) A (assign (.Tuple elts k pos) env (.ref l)) Q E s := by
  rw [assign_Tuple]
  refine wpAny_bind (wpAny_standAt ?_)
  unfold unpack
  rw [hn, hstar]
  exact wpAny_bind (wpAny_holding (unpE_items hend F N hm fun h' he => h h' he (F.extBut he (Nat.le_refl _)) (N.extBut he (Nat.le_refl _))))

theorem asg_four {x0 x1 x2 x3 : Str} {p0 p1 p2 p3 tp : Pos} {kk : Nat} {C r : Addr} {m₀ : Str → Option Value} {v0 v1 v2 v3 : Value} {n : Nat} {news : List (Addr × Obj)} {Q : Unit → Shared → Prop}
    (hend : EndOk prog w A h₀) (F : Fr h₀ L s.heap m) (N : News h₀ L s.heap news) (hm : (r, listOf #[v0, v1, v2, v3] n) ∈ news) (hns : s.heap.Ns C m₀) (hkind : scope.kind = .function)
    (h0 : scope.names.lookup x0 = some .local) (h1 : scope.names.lookup x1 = some .local) (h2 : scope.names.lookup x2 = some .local) (h3 : scope.names.lookup x3 = some .local)
    (n01 : x0 ≠ x1 ∧ x0 ≠ x2 ∧ x0 ≠ x3 ∧ x1 ≠ x2 ∧ x1 ≠ x3 ∧ x2 ≠ x3)
    (h : ∀ h₃ m₃ tk, (∀ b o, b ≠ C → s.heap.get? b = some o → h₃.get? b = some o) → h₃.Ns C m₃ → (m₃ x0 = some v0 ∧ m₃ x1 = some v1 ∧ m₃ x2 = some v2 ∧ m₃ x3 = some v3) → Q () { s with heap := h₃, toks := tk }) :
    wpAny (model prog w) A (assign (.Tuple [.Name x0 p0, .Name x1 p1, .Name x2 p2, .Name x3 p3] kk tp) (compEnvC scope cl C env) (.ref r)) Q E s := by
  refine unpE (vs := [v0, v1, v2, v3]) hend F N hm rfl rfl fun h' he F' N' => ?_
  have he' : ∀ b o, s.heap.get? b = some o → h'.get? b = some o := fun b o e => he b o (Nat.ne_of_lt (Heap.lt_size e)) e
  have st : ∀ {x : Str} {px : Pos} {v : Value} {m : Str → Option Value} {s₁ : Shared} {Q : Unit → Shared → Prop}, scope.names.lookup x = some .local → s₁.heap.Ns C m → (∀ h₂, h₂.Ns C (fun y => if y = x then some v else m y) → Heap.SameBut C s₁.heap h₂ → Q () { s₁ with heap := h₂, toks := s₁.toks + 1 }) →
      wpAny (model prog w) A (assign (.Name x px) (compEnvC scope cl C env) v) Q E s₁ := fun hx hn hq =>
    wpAny_assign_Name (wpAny_storeName_local (lookup_relabel_local hx) hn hq (by simp [compEnvC, relabel, hkind]))
  refine assignInOrder_cons (st h0 (hns.at' fun o e => he' _ o e) fun g1 k1 s1 => ?_)
  refine assignInOrder_cons (st h1 k1 fun g2 k2 s2 => ?_)
  refine assignInOrder_cons (st h2 k2 fun g3 k3 s3 => ?_)
  refine assignInOrder_cons (st h3 k3 fun g4 k4 s4 => ?_)
  refine assignInOrder_nil (h _ _ _ (fun b o hb e => s4.extBut b o hb (s3.extBut b o hb (s2.extBut b o hb (s1.extBut b o hb (he' b o e))))) k4 ?_)
  obtain ⟨a, b, c, d, e, f⟩ := n01
  simp [a, b, c, d, e, f]
end
end
section
section
variable {prog : Program} {w : World} {A : Around} {E : Value → Shared → Prop} {s : Shared} {env : Env} {h₀ : Heap} {L : Addr} {m : Str → Option Value} {elt iter : Expr} {scope : Scope} {cl : List (Str × Addr)} {pos : Pos}
open LCg in
/-- [elt for x in range(n)] -/
theorem lc_rangeE {x : Str} {px : Pos} {Q : Value → Shared → Prop} (_F₀ : Fr h₀ L s.heap m) (Pn : Nat → Prop) (J : Nat → List Value → List (Addr × Obj) → Prop) (hh : A.handled = none)
    (he : wpAny (model prog w) A (eval iter env) (fun xv s₁ => Stop (∃ r b t u v n news, xv = .ref r ∧ ∃ tk h, s₁ = { s with heap := h, toks := tk } ∧ Fr h₀ L h m ∧ News h₀ L h news ∧ IsRange h r 0 b 1 t u v ∧ Builtin.Range.small 0 b 1 = true ∧ Builtin.Range.rangeSize 0 b 1 = ((n : Nat) : Int) ∧ n ≤ 255 ∧ Pn n ∧ J 0 [] news)) E s)
    (hclos : closureFor scope env = pure cl) (hcell : ∀ y ∈ scope.names, y.2 ≠ .cell) (hkind : scope.kind = .function)
    (hnames : ∀ y ∈ scope.names, y.2 = .local → scope.names.lookup y.1 = some .local) (hx : scope.names.lookup x = some .local)
    (turn : ∀ i t ys news₁ I oI C oC D m₂ h tk (E' : Value → Shared → Prop), J i ys news₁ → NsObj oC m₂ → m₂ x = some (.int (0 + (i : Int)) t) → Fr h₀ L h m → News h₀ L h ((I, oI) :: (C, oC) :: (D, lst ys) :: news₁) → Off3 I C D news₁ → ((@Ne Nat I C) ∧ (@Ne Nat I D) ∧ (@Ne Nat C D)) →
      wpAny (model prog w) A (eval elt (compEnvC scope cl C env)) (CompEnd h₀ L m { s with heap := h, toks := tk } I oI C oC D (lst ys) (fun _ => True) (fun y news' => J (i + 1) (ys ++ [y]) news')) E' { s with heap := h, toks := tk })
    (done : ∀ n D ys news' h tk, Pn n → J n ys news' → Fr h₀ L h m → News h₀ L h ((D, listOf (List.toArray ys) ys.length) :: news') → (∀ p ∈ news', p.1 ≠ D) → Q (.ref D) { s with heap := h, toks := tk })
    (hs : ∀ x, foldedSetIterable iter env x = pure x := by intro _; rfl) :
    wpAny (model prog w) A (eval (.ListComp elt [⟨.Name x px, iter, [], 0⟩] scope pos) env) Q E s := by
  rw [eval_ListComp]
  refine wpAny_comprehension_free (use := none) rfl hs hclos hkind hnames (wpAny_mono he (fun xv s₁ h₁ => ?_) fun _ _ e => e)
  obtain ⟨r, b, t, u, v, n, news, rfl, tk₁, hh₁, rfl, F, N, hr, hsm, hn, hn255, hPn, hJ0⟩ := h₁
  refine wpAny_pyIter_range hr hsm ?_
  have key : ∀ (g : Heap) j i ys news', i + j = n → J i ys news' → CompRest prog w A h₀ L m env elt x scope cl { s with heap := g, toks := tk₁ } (fun _ => True) (fun i v => ∃ t, v = .int (0 + (i : Int)) t) (fun ys news' => J n ys news') j i ys news' := by
    intro g j
    induction j with
    | zero =>
      intro i ys news' hi hJ
      obtain rfl : i = n := by omega
      exact CompRest.zero hJ
    | succ j ih =>
      intro i ys news' hi hJ
      refine CompRest.succ fun v I oI C oC D m₂ h tk E' hv hC hx F' N' off ne => ?_
      obtain ⟨t', rfl⟩ := hv
      refine wpAny_mono (turn i t' ys news' I oI C oC D m₂ h tk E' hJ hC hx F' N' off ne) (fun y s₂ h₂ => ?_) fun _ _ e => e
      obtain ⟨h₄, tk₄, news₄, e₄, F₄, N₄, o₄, S₄, r₄⟩ := h₂
      exact ⟨h₄, tk₄, news₄, e₄, F₄, N₄, o₄, S₄, ih (i + 1) _ _ (by omega) r₄⟩
  refine block_U (range_walks hh 0 n) (by rw [sizeLine_eq]; omega) (fun i h st => ⟨_, st⟩) range_st hcell hkind hx (by show IsRangeIter _ _ _ _ _; rw [hn]; simpa using Heap.get?_push_size _ rfl) (fun b hb => ?_)
    (F.keeps fun _ _ e => Heap.get?_push_of_some _ e) (N.grown fun _ _ e => Heap.get?_push_of_some _ e) (Nat.ne_of_lt F.ns.lt) (next_is_new F) (fun p hp => Nat.ne_of_lt (Heap.lt_size (N p hp).1)) trivial (key _ n 0 [] news (by omega) hJ0) ?_
  · rw [List.mem_singleton.mp hb]
    show hh₁.objs.size < (hh₁.push _).objs.size
    rw [Heap.size_push]; exact Nat.lt_succ_self _
  · intro D C h tk m' ys news' F' N' o1 hn' hC₀ hD₀ hCL hDL hCD offC fin
    refine ⟨m', hn', fun h'' hs'' => done n D ys news' h'' tk hPn fin (F'.change hs'' hCL hC₀) (fun p hp => ?_) (fun p hp => off1_mem o1 p hp)⟩
    refine ⟨hs''.extBut _ _ ?_ (N' p hp).1, (N' p hp).2⟩
    rcases List.mem_cons.mp hp with rfl | hp
    · exact Ne.symm hCD
    · exact offC p hp

open LCg in
/-- y = [elt for x in range(n)], whatever y is (done does the storing) -/
theorem lc_rangeAny {x y : Str} {px py spos : Pos} {Q : Flow → Shared → Prop} (_F₀ : Fr h₀ L s.heap m) (Pn : Nat → Prop) (J : Nat → List Value → List (Addr × Obj) → Prop) (hh : A.handled = none)
    (he : wpAny (model prog w) A (eval iter env) (fun xv s₁ => Stop (∃ r b t u v n news, xv = .ref r ∧ ∃ tk h, s₁ = { s with heap := h, toks := tk } ∧ Fr h₀ L h m ∧ News h₀ L h news ∧ IsRange h r 0 b 1 t u v ∧ Builtin.Range.small 0 b 1 = true ∧ Builtin.Range.rangeSize 0 b 1 = ((n : Nat) : Int) ∧ n ≤ 255 ∧ Pn n ∧ J 0 [] news)) E s)
    (hsw : swapsWith (.ListComp elt [⟨.Name x px, iter, [], 0⟩] scope pos) (some (.Name y py)) spos.line env = pure true)
    (hclos : closureFor scope env = pure cl) (hcell : ∀ y ∈ scope.names, y.2 ≠ .cell) (hkind : scope.kind = .function)
    (hnames : ∀ y ∈ scope.names, y.2 = .local → scope.names.lookup y.1 = some .local) (hx : scope.names.lookup x = some .local)
    (turn : ∀ i t ys news₁ I oI C oC D m₂ h tk (E' : Value → Shared → Prop), J i ys news₁ → NsObj oC m₂ → m₂ x = some (.int (0 + (i : Int)) t) → Fr h₀ L h m → News h₀ L h ((I, oI) :: (C, oC) :: (D, lst ys) :: news₁) → Off3 I C D news₁ → ((@Ne Nat I C) ∧ (@Ne Nat I D) ∧ (@Ne Nat C D)) →
      wpAny (model prog w) A (eval elt (compEnvC scope cl C env)) (CompEnd h₀ L m { s with heap := h, toks := tk } I oI C oC D (lst ys) (fun _ => True) (fun y news' => J (i + 1) (ys ++ [y]) news')) E' { s with heap := h, toks := tk })
    (done : ∀ n D C m' ys news' h tk, Pn n → J n ys news' → Fr h₀ L h m → News h₀ L h ((D, lst ys) :: news') → (∀ p ∈ news', p.1 ≠ D) → (∀ p ∈ (D, lst ys) :: news', p.1 ≠ C) → C ≠ L → h₀.get? C = none → h.Ns C m' →
      wpAny (model prog w) A (assign (.Name y py) env (.ref D)) (fun _ s'' => ∃ m'', s''.heap.Ns C m'' ∧ ∀ h', Heap.SameBut C s''.heap h' → Q .next { s'' with heap := h' }) E { s with heap := h, toks := tk })
    (hs : ∀ x, foldedSetIterable iter env x = pure x := by intro _; rfl) :
    wpAny (model prog w) A (exec (.Assign [.Name y py] (.ListComp elt [⟨.Name x px, iter, [], 0⟩] scope pos) spos) env) Q E s := by
  rw [exec_Assign_Name_used _ _ _ _ hsw]
  refine wpAny_bind (wpAny_standAt (wpAny_bind ?_))
  show wpAny _ A (do let _ ← comprehension (.ListComp elt [⟨.Name x px, iter, [], 0⟩] scope pos) scope env _ (newList []) false (eval iter env) (some (assign (.Name y py) env))) _ _ s
  refine wpAny_bind (wpAny_mono (wpAny_comprehension_free (use := some (assign (.Name y py) env)) (Q := fun _ s' => Q .next s') rfl hs hclos hkind hnames
    (wpAny_mono he (fun xv s₁ h₁ => ?_) fun _ _ e => e)) (fun _ s' hq => wpAny_pure (wpAny_pure hq)) fun _ _ e => e)
  obtain ⟨r, b, t, u, v, n, news, rfl, tk₁, hh₁, rfl, F, N, hr, hsm, hn, hn255, hPn, hJ0⟩ := h₁
  refine wpAny_pyIter_range hr hsm ?_
  have key : ∀ (g : Heap) j i ys news', i + j = n → J i ys news' → CompRest prog w A h₀ L m env elt x scope cl { s with heap := g, toks := tk₁ } (fun _ => True) (fun i v => ∃ t, v = .int (0 + (i : Int)) t) (fun ys news' => J n ys news') j i ys news' := by
    intro g j
    induction j with
    | zero =>
      intro i ys news' hi hJ
      obtain rfl : i = n := by omega
      exact CompRest.zero hJ
    | succ j ih =>
      intro i ys news' hi hJ
      refine CompRest.succ fun v I oI C oC D m₂ h tk E' hv hC hx F' N' off ne => ?_
      obtain ⟨t', rfl⟩ := hv
      refine wpAny_mono (turn i t' ys news' I oI C oC D m₂ h tk E' hJ hC hx F' N' off ne) (fun y s₂ h₂ => ?_) fun _ _ e => e
      obtain ⟨h₄, tk₄, news₄, e₄, F₄, N₄, o₄, S₄, r₄⟩ := h₂
      exact ⟨h₄, tk₄, news₄, e₄, F₄, N₄, o₄, S₄, ih (i + 1) _ _ (by omega) r₄⟩
  refine block_U (range_walks hh 0 n) (by rw [sizeLine_eq]; omega) (fun i h st => ⟨_, st⟩) range_st hcell hkind hx (by show IsRangeIter _ _ _ _ _; rw [hn]; simpa using Heap.get?_push_size _ rfl) (fun b hb => ?_)
    (F.keeps fun _ _ e => Heap.get?_push_of_some _ e) (N.grown fun _ _ e => Heap.get?_push_of_some _ e) (Nat.ne_of_lt F.ns.lt) (next_is_new F) (fun p hp => Nat.ne_of_lt (Heap.lt_size (N p hp).1)) trivial (key _ n 0 [] news (by omega) hJ0) ?_
  · rw [List.mem_singleton.mp hb]
    show hh₁.objs.size < (hh₁.push _).objs.size
    rw [Heap.size_push]; exact Nat.lt_succ_self _
  · intro D C h tk m' ys news' F' N' o1 hn' hC₀ hD₀ hCL hDL hCD offC fin
    exact done n D C m' ys news' h tk hPn fin F' N' (fun p hp => off1_mem o1 p hp) (List.forall_mem_cons.mpr ⟨Ne.symm hCD, offC⟩) hCL hC₀ hn'

open LCg in
/-- y = [elt for x in range(n)], y a local -/
theorem lc_rangeL {x y : Str} {px py spos : Pos} {Q : Flow → Shared → Prop} (F₀ : Fr h₀ L s.heap m) (Pn : Nat → Prop) (J : Nat → List Value → List (Addr × Obj) → Prop) (hh : A.handled = none) (hLe : env.locals = L)
    (he : wpAny (model prog w) A (eval iter env) (fun xv s₁ => Stop (∃ r b t u v n news, xv = .ref r ∧ ∃ tk h, s₁ = { s with heap := h, toks := tk } ∧ Fr h₀ L h m ∧ News h₀ L h news ∧ IsRange h r 0 b 1 t u v ∧ Builtin.Range.small 0 b 1 = true ∧ Builtin.Range.rangeSize 0 b 1 = ((n : Nat) : Int) ∧ n ≤ 255 ∧ Pn n ∧ J 0 [] news)) E s)
    (hsw : swapsWith (.ListComp elt [⟨.Name x px, iter, [], 0⟩] scope pos) (some (.Name y py)) spos.line env = pure true)
    (hclos : closureFor scope env = pure cl) (hcell : ∀ y ∈ scope.names, y.2 ≠ .cell) (hkind : scope.kind = .function)
    (hnames : ∀ y ∈ scope.names, y.2 = .local → scope.names.lookup y.1 = some .local) (hx : scope.names.lookup x = some .local)
    (hy : env.kindOf y = some .local) (hp : (env.scope.kind == .class || (env.scope.kind == .module && env.locals != env.globals)) = false)
    (turn : ∀ i t ys news₁ I oI C oC D m₂ h tk (E' : Value → Shared → Prop), J i ys news₁ → NsObj oC m₂ → m₂ x = some (.int (0 + (i : Int)) t) → Fr h₀ L h m → News h₀ L h ((I, oI) :: (C, oC) :: (D, lst ys) :: news₁) → Off3 I C D news₁ → ((@Ne Nat I C) ∧ (@Ne Nat I D) ∧ (@Ne Nat C D)) →
      wpAny (model prog w) A (eval elt (compEnvC scope cl C env)) (CompEnd h₀ L m { s with heap := h, toks := tk } I oI C oC D (lst ys) (fun _ => True) (fun y news' => J (i + 1) (ys ++ [y]) news')) E' { s with heap := h, toks := tk })
    (done : ∀ n D ys news' h tk, Pn n → J n ys news' → Fr h₀ L h (fun z => if z = y then some (.ref D) else m z) → News h₀ L h ((D, listOf (List.toArray ys) ys.length) :: news') → (∀ p ∈ news', p.1 ≠ D) → Q .next { s with heap := h, toks := tk })
    (hs : ∀ x, foldedSetIterable iter env x = pure x := by intro _; rfl) :
    wpAny (model prog w) A (exec (.Assign [.Name y py] (.ListComp elt [⟨.Name x px, iter, [], 0⟩] scope pos) spos) env) Q E s := by
  subst hLe
  refine lc_rangeAny F₀ Pn J hh he hsw hclos hcell hkind hnames hx turn (fun n D C m' ys news' h tk hP hJ F' N' o1 offC hCL hC₀ hns => ?_) hs
  refine wpAny_assign_Name (wpAny_storeName_local hy F'.ns (fun h₂ hn₂ hs₂ => ?_) hp)
  have hL₀ : h₀.get? env.locals = none := Heap.get?_none_of_le F'.above
  have F₂ : Fr h₀ env.locals h₂ (fun z => if z = y then some (.ref D) else m z) := ⟨hn₂, fun b o e => hs₂.extBut b o (fun q => by rw [q, hL₀] at e; cases e) (F'.keep b o e), F'.above⟩
  refine ⟨m', hns.sameBut hs₂ hCL, fun h'' hs'' => done n D ys news' h'' _ hP hJ (F₂.change hs'' hCL hC₀) (fun p hp => ?_) o1⟩
  have z : h₂.get? p.1 = some p.2 := hs₂.extBut _ _ (N' p hp).2.1 (N' p hp).1
  exact ⟨hs''.extBut _ _ (offC p hp) z, (N' p hp).2⟩

end
end
section
section
variable {prog : Program} {w : World} {A : Around} {E : Value → Shared → Prop} {s : Shared} {env : Env} {h₀ : Heap} {L : Addr} {m : Str → Option Value} {elt ct iter : Expr} {scope : Scope} {cl : List (Str × Addr)} {pos : Pos}
open LCg in
/-- [elt for x in a list if ct], the ledger kept -/
theorem lc_if {x : Str} {px : Pos} {ax : Addr} {vs : List Value} {k : Nat} {news : List (Addr × Obj)} {Q : Value → Shared → Prop} (F₀ : Fr h₀ L s.heap m) (J : Nat → List Value → Prop) (hh : A.handled = none)
    (he : wpAny (model prog w) A (eval iter env) (fun xv s₁ => xv = .ref ax ∧ ∃ tk h, s₁ = { s with heap := h, toks := tk } ∧ Fr h₀ L h m ∧ News h₀ L h news) E s)
    (hm : (ax, listOf vs.toArray k) ∈ news) (hsz : vs.length ≤ sizeLine)
    (hclos : closureFor scope env = pure cl) (hcell : ∀ y ∈ scope.names, y.2 ≠ .cell) (hkind : scope.kind = .function)
    (hnames : ∀ y ∈ scope.names, y.2 = .local → scope.names.lookup y.1 = some .local) (hx : scope.names.lookup x = some .local) (h0 : J 0 [])
    (turn : ∀ i v ys I oI C oC D m₂ h tk (E' : Value → Shared → Prop), vs[i]? = some v → J i ys → NsObj oC m₂ → m₂ x = some v → Fr h₀ L h m → News h₀ L h ((I, oI) :: (C, oC) :: (D, lst ys) :: news) → Off3 I C D news → ((@Ne Nat I C) ∧ (@Ne Nat I D) ∧ (@Ne Nat C D)) →
      wpAny (model prog w) A (isTrue ct (compEnvC scope cl C env) (eval ct (compEnvC scope cl C env))) (fun ok s' => if ok = true then
        wpAny (model prog w) A (eval elt (compEnvC scope cl C env)) (CompEnd h₀ L m { s with heap := h, toks := tk } I oI C oC D (lst ys) (fun _ => True) (fun y news' => news' = news ∧ J (i + 1) (ys ++ [y]))) E' s'
        else CompEnd h₀ L m { s with heap := h, toks := tk } I oI C oC D (lst ys) (fun _ => True) (fun _ news' => news' = news ∧ J (i + 1) ys) Value.none s') E' { s with heap := h, toks := tk })
    (done : ∀ D ys h tk, J vs.length ys → Fr h₀ L h m → News h₀ L h ((D, listOf (List.toArray ys) ys.length) :: news) → (∀ p ∈ news, p.1 ≠ D) → Q (.ref D) { s with heap := h, toks := tk })
    (hs : ∀ x, foldedSetIterable iter env x = pure x := by intro _; rfl) :
    wpAny (model prog w) A (eval (.ListComp elt [⟨.Name x px, iter, [ct], 0⟩] scope pos) env) Q E s := by
  refine LCt.ListComp_T F₀ hclos hcell hkind hnames hx (wpAny_mono he (fun xv s₁ h₁ => ?_) fun _ _ e => e) hs
  obtain ⟨rfl, tk₁, hh₁, rfl, F, N⟩ := h₁
  refine LCt.CompSrcT.ledger hh F N hm (by simpa using hsz) fun g => ?_
  have hS : SrcAt h₀ ax vs.toArray news := .inr ⟨_, hm, rfl, _, rfl⟩
  have key : ∀ j i ys, i + j = vs.toArray.size → J i ys → LCt.CompRestT prog w A h₀ L m env ct elt x scope cl { s with heap := g, toks := tk₁ } (SrcAt h₀ ax vs.toArray) (fun i v => vs.toArray[i]? = some v)
      (FinE h₀ L m { s with heap := g, toks := tk₁ } Q) j i ys news := by
    intro j
    induction j with
    | zero =>
      intro i ys hi hJ
      refine LCt.CompRestT.zero ?_
      intro D h tk F' N' o1
      have e : i = vs.length := by simpa using hi
      subst e
      exact done D ys h tk hJ F' N' (fun p hp => off1_mem o1 p hp)
    | succ j ih =>
      intro i ys hi hJ
      refine LCt.CompRestT.succ fun v I oI C oC D m₂ h tk E' hv hC hx F' N' off ne => ?_
      refine wpAny_mono (turn i v ys I oI C oC D m₂ h tk E' (by simpa using hv) hJ hC hx F' N' off ne) (fun b s₂ h₂ => ?_) fun _ _ e => e
      cases b with
      | true =>
        simp only [if_true] at h₂ ⊢
        refine wpAny_mono h₂ (fun y s₃ h₃ => ?_) fun _ _ e => e
        obtain ⟨h₄, tk₄, news₄, e₄, F₄, N₄, o₄, -, rfl, r₄⟩ := h₃
        exact ⟨h₄, tk₄, _, e₄, F₄, N₄, o₄, hS, ih (i + 1) _ (by omega) r₄⟩
      | false =>
        simp only [Bool.false_eq_true, if_false] at h₂ ⊢
        obtain ⟨h₄, tk₄, news₄, e₄, F₄, N₄, o₄, -, rfl, r₄⟩ := h₂
        exact ⟨h₄, tk₄, _, e₄, F₄, N₄, o₄, hS, ih (i + 1) _ (by omega) r₄⟩
  exact key _ 0 [] (by omega) h0
end
end
section
theorem lk_list_keys : typeLookup (.type "list") "keys" = pure none := by rw [typeLookup_type, builtinLookup_eq_fast]; kernel_rfl
theorem lk_list_getattr : typeLookup (.type "list") "__getattr__" = pure none := by rw [typeLookup_type, builtinLookup_eq_fast]; kernel_rfl
theorem sub_attrErr : isSubtype (.type "AttributeError") (.type "AttributeError") = pure true := by rw [isSubtype_type]; kernel_rfl
section
variable {prog : Program} {w : World} {A : Around} {E : Value → Shared → Prop} {s : Shared}
/-- no exception is being handled, or one without a context of its own -/
def HAny (A : Around) (h : Heap) : Prop := A.handled = none ∨ ∃ x ox vs, A.handled = some (.ref x) ∧ h.get? x = some ox ∧ ox.data = .fields vs ∧ vs[2]? = some .none
theorem HAny.keeps {h h' : Heap} (H : HAny A h) (k : ∀ b o, h.get? b = some o → h'.get? b = some o) : HAny A h' :=
  H.imp id fun ⟨x, ox, vs, a, b, c, d⟩ => ⟨x, ox, vs, a, k _ _ b, c, d⟩
theorem raiseNew_any {α : Type} {Q : α → Shared → Prop} {h₀ : Heap} {oa : Obj} {ws : Array Value} (H : HAny A h₀) (k : ∀ b o, h₀.get? b = some o → s.heap.get? b = some o) {a : Addr} (hna : h₀.get? a = none)
    (ha : s.heap.get? a = some oa) (had : oa.data = .fields ws) (hsz : 2 < ws.size)
    (h : ∀ h', Heap.ExtBut a s.heap h' → (∃ o', h'.get? a = some o' ∧ o'.cls = oa.cls) → E (.ref a) { s with heap := h' }) :
    wpAny (model prog w) A (raiseNew (.ref a) : Sem α) Q E s := by
  rcases H with hn | ⟨x, ox, vs, hh, hx, hxd, hx2⟩
  · simp only [raiseNew]
    refine wpAny_bind (wpAny_handled ?_)
    rw [hn]
    exact wpAny_bind (wpAny_pure (wpAny_throw (h s.heap (fun _ _ _ e => e) ⟨_, ha, rfl⟩)))
  · refine raiseNew_some hh (fun q => by rw [q, hna] at hx; cases hx) (k _ _ hx) hxd hx2 ha had hsz (h _ (Heap.SameBut.update ..).extBut ⟨_, Heap.get?_update_self _ ha (Obj.isFreed_of_fields (Obj.data_mapFields had _)), Obj.cls_mapFields _ _⟩)
theorem x_attr {α : Type} {Q : α → Shared → Prop} {o : Value} {name msg : Str} (H : HAny A s.heap) (hmsg : msg.length ≤ sizeLine)
    (h : ∀ e h' tk, (∀ b o, s.heap.get? b = some o → h'.get? b = some o) → (∃ o', h'.get? e = some o' ∧ o'.cls = .type "AttributeError") → E (.ref e) { s with heap := h', toks := tk }) :
    wpAny (model prog w) A (raiseAttrError o name msg : Sem α) Q E s := by
  unfold raiseAttrError
  refine wpAny_bind (wpAny_mkStr ?_ hmsg)
  refine wpAny_bind ?_
  simp only [newExc, newTuple]
  refine wpAny_bind (wpAny_newObj_type ?_ (by size_fits))
  refine wpAny_bind (m := firstArgMember _ _) (wpAny_of_eq (a := Value.none) (by first | rfl | (simp only [firstArgMember]; rfl)) ?_)
  refine wpAny_newObj_type ?_ (by size_fits)
  generalize hg : (s.heap.push { cls := .type "tuple", data := .seq ([Value.str msg s.toks] : List Value).toArray }) = g
  have up : ∀ b o, s.heap.get? b = some o → g.get? b = some o := fun b o e => hg ▸ Heap.get?_push_of_some _ e
  have hng : s.heap.get? g.objs.size = none := by
    cases q : s.heap.get? g.objs.size with
    | none => rfl
    | some o => exact absurd (Heap.lt_size (up _ _ q)) (Nat.lt_irrefl _)
  refine wpAny_bind (wpAny_mkText ?_)
  have ha := Heap.get?_push_size g (o := { cls := .type "AttributeError", data := .fields (#[.ref s.heap.objs.size, .none, .none, .none, .bool false, .none] ++ ownMembersOf (.type "AttributeError") [Value.str msg s.toks]) }) rfl
  refine wpAny_bind ?_
  unfold noteAttr
  dsimp only
  refine wpAny_bind ?_
  unfold lacksNameAndObj
  dsimp only
  refine wpAny_bind (wpAny_isInstance (T := "AttributeError") (b := true) ⟨_, ha, rfl⟩ sub_attrErr ?_)
  simp only [Bool.not_true, Bool.false_eq_true, if_false]
  refine wpAny_bind (wpAny_load ha ?_)
  dsimp only
  rw [if_neg (by exact Bool.false_ne_true), if_neg (by simp [ownMembersOf, unsetMember, doubtfulMember, rawInt])]
  refine wpAny_pure ?_
  simp only [if_true]
  refine wpAny_bind (wpAny_rule ?_)
  refine wpAny_bind (wpAny_typeOf (T := "AttributeError") ⟨_, ha, rfl⟩ ?_)
  dsimp only
  unfold layMembers
  refine wpAny_bind (wpAny_load ha ?_)
  dsimp only
  refine wpAny_update ha ?_
  have ha2 := Heap.get?_update_self (Obj.mapFields fun vs => vs.extract 0 6 ++ #[Value.str name (s.toks + 1), o]) ha rfl
  refine raiseNew_any H (fun b o e => (Heap.get?_update_other _ _ (fun q => by rw [← q, hng] at e; cases e)).trans (Heap.get?_push_of_some _ (up b o e))) hng ha2 rfl (by rw [Array.size_append]; exact Nat.lt_of_lt_of_le (by decide) (Nat.le_add_right 6 _)) ?_
  intro h' he' hc
  exact h _ h' _ (fun b o e => by
    have nb : b ≠ g.objs.size := fun q => by rw [q, hng] at e; cases e
    exact he' b o nb ((Heap.get?_update_other _ _ (Ne.symm nb)).trans (Heap.get?_push_of_some _ (up b o e)))) hc
end
section
variable {prog : Program} {w : World} {A : Around} {E : Value → Shared → Prop} {h : Heap} {g : Array GenState} {d : Drawn} {t : Nat} {os : OsState} {a : Addr} {o : Obj}
theorem keys_entry_list {tk : Tok} {Q : Fin → Shared → Prop} {vs : List Value} {n : Nat} (H : HAny A h) (hx : h.get? a = some (listOf vs.toArray n))
    (hE : ∀ e h' tk, (∀ b o, h.get? b = some o → h'.get? b = some o) → (∃ o', h'.get? e = some o' ∧ o'.cls = .type "AttributeError") → E (.ref e) ⟨h', g, d, tk, os⟩) :
    wpAny (model prog w) A (Builtin.«object.__getattribute__» ⟨[.ref a, .str "keys" tk], []⟩) Q E ⟨h, g, d, t, os⟩ := by
  have hT : (⟨h, g, d, t, os⟩ : Shared).TypeIs (.ref a) "list" := ⟨_, hx, rfl⟩
  have f4 := lk_list_keys
  repeat (any_goals (first | assumption | wp_step))
  exact x_attr H (by decide +kernel) hE
theorem keys_call_list {tk : Tok} {R : Result → Shared → Prop} {vs : List Value} {n : Nat} (H : HAny A h) (hx : h.get? a = some (listOf vs.toArray n))
    (hE : ∀ e h' tk, (∀ b o, h.get? b = some o → h'.get? b = some o) → (∃ o', h'.get? e = some o' ∧ o'.cls = .type "AttributeError") → R (.error (.ref e)) ⟨h', g, d, tk, os⟩) :
    codeAny (model prog w) A (.call (.builtin "list.__getattribute__") ⟨[.ref a, .str "keys" tk], []⟩) R ⟨h, g, d, t, os⟩ :=
  codeAny_call_builtin F.slot_list_getattribute.plain F.entry_list_ga (F.slot_list_getattribute.check _ _ _ _ _ _ _ _ (show (⟨h, g, d, t, os⟩ : Shared).TypeIs (.ref a) "list" from ⟨_, hx, rfl⟩) (F.args_list_getattribute_2 _ _)
    (keys_entry_list H hx hE))
theorem keys_by_list {tk : Tok} {Q : Value → Shared → Prop} {vs : List Value} {n : Nat} (H : HAny A h) (hx : h.get? a = some (listOf vs.toArray n))
    (hE : ∀ e h' tk, (∀ b o, h.get? b = some o → h'.get? b = some o) → (∃ o', h'.get? e = some o' ∧ o'.cls = .type "AttributeError") → E (.ref e) ⟨h', g, d, tk, os⟩) :
    wpAny (model prog w) A (getAttrBy (.ref a) (.str "keys" tk) false) Q E ⟨h, g, d, t, os⟩ := by
  have hT : (⟨h, g, d, t, os⟩ : Shared).TypeIs (.ref a) "list" := ⟨_, hx, rfl⟩
  have f2 := F.slot_list_getattribute.lookup
  have f3 := F.slot_list_getattribute.bind (.ref a)
  repeat (any_goals (first | assumption | wp_step))
  refine keys_call_list H hx fun e h' tk' k hc => ?_
  dsimp only
  unfold getattributeRaised
  obtain ⟨o', ho', hc'⟩ := hc
  refine wpAny_bind (wpAny_isInstance (T := "AttributeError") (b := true) ⟨_, ho', hc'⟩ sub_attrErr ?_)
  simp only [if_true]
  unfold hookBehind
  rw [if_neg (by decide)]
  refine wpAny_bind (wpAny_of_eq lk_list_getattr ?_)
  unfold hookOrError attributeErrorLeaves
  dsimp only
  rw [if_pos (by decide)]
  exact wpAny_bind (wpAny_throw (hE e h' tk' k ⟨o', ho', hc'⟩))
theorem keys_list {Q : Option Value → Shared → Prop} {vs : List Value} {n : Nat} {s : Shared} (H : HAny A s.heap) (hx : s.heap.get? a = some (listOf vs.toArray n))
    (hQ : ∀ h' tk, (∀ b o, s.heap.get? b = some o → h'.get? b = some o) → Q none { s with heap := h', toks := tk }) :
    wpAny (model prog w) A (getAttr? (.ref a) "keys") Q E s := by
  obtain ⟨h, g, d, t, os⟩ := s
  unfold getAttr? getAttrBy?
  refine wpAny_bind (wpAny_mkText ?_)
  refine wpAny_bind (wpAny_attempt (keys_by_list H hx fun e h' tk k hc => ?_))
  dsimp only
  obtain ⟨o', ho', hc'⟩ := hc
  refine wpAny_bind (wpAny_isInstance (T := "AttributeError") (b := true) ⟨_, ho', hc'⟩ sub_attrErr ?_)
  simp only [if_true]
  exact wpAny_pure (hQ _ _ k)
end
end
section
theorem plain_upd_loop : plainId "dict.update.loop" = true := by decide +kernel
theorem entry_upd_loop : entryFor table "dict.update.loop" = some Builtin.«dict.update.loop» := entryFor_of_fast (by kernel_rfl)
def keysOf (ids : List Int) : List Int := ids.foldl (fun ks x => if x ∈ ks then ks else ks ++ [x]) []
theorem keysOf_snoc (ids : List Int) (x : Int) : keysOf (ids ++ [x]) = if x ∈ keysOf ids then keysOf ids else keysOf ids ++ [x] := by unfold keysOf; rw [List.foldl_append]; rfl
theorem snoc_ind {α : Type} {P : List α → Prop} (h0 : P []) (h1 : ∀ l x, P l → P (l ++ [x])) (l : List α) : P l := by
  have : ∀ r : List α, P r.reverse := fun r => by
    induction r with
    | nil => exact h0
    | cons a r ih => rw [List.reverse_cons]; exact h1 _ _ ih
  have := this l.reverse
  rwa [List.reverse_reverse] at this
theorem keysOf_spec (ids : List Int) : (∀ x, x ∈ keysOf ids ↔ x ∈ ids) ∧ (keysOf ids).Nodup ∧ (keysOf ids).length ≤ ids.length ∧ ((keysOf ids).length = ids.length ↔ ids.Nodup) := by
  refine snoc_ind (P := fun ids => (∀ x, x ∈ keysOf ids ↔ x ∈ ids) ∧ (keysOf ids).Nodup ∧ (keysOf ids).length ≤ ids.length ∧ ((keysOf ids).length = ids.length ↔ ids.Nodup)) (by simp [keysOf]) (fun l x ih => ?_) ids
  · obtain ⟨h1, h2, h3, h4⟩ := ih
    rw [keysOf_snoc]
    by_cases hx : x ∈ keysOf l
    · rw [if_pos hx]
      have hx' := (h1 x).mp hx
      refine ⟨fun y => ?_, h2, by simp; omega, ?_⟩
      · rw [h1]; simp; intro e; exact e ▸ hx'
      · constructor
        · intro e; simp at e; omega
        · intro e
          rw [List.nodup_append] at e
          exact absurd rfl (e.2.2 x hx' x (by simp))
    · rw [if_neg hx]
      have hx' : x ∉ l := fun q => hx ((h1 x).mpr q)
      refine ⟨fun y => by simp [h1], ?_, by simp; omega, ?_⟩
      · rw [List.nodup_append]; exact ⟨h2, by simp, fun a ha b hb e => by simp at hb; subst hb; exact hx (e ▸ ha)⟩
      · simp only [List.length_append, List.length_singleton, Nat.add_right_cancel_iff]
        rw [h4, List.nodup_append]
        exact ⟨fun q => ⟨q, by simp, fun a ha b hb e => by simp at hb; subst hb; exact hx' (e ▸ ha)⟩, fun q => q.1⟩
theorem stored_keys {kvs : List (Int × Value)} {k : Int} {v : Value} : (stored kvs k v).map (·.1) = if k ∈ kvs.map (·.1) then kvs.map (·.1) else kvs.map (·.1) ++ [k] := by
  unfold stored
  by_cases h : k ∈ kvs.map (·.1)
  · rw [if_pos h, if_pos (by obtain ⟨p, hp, e⟩ := List.mem_map.mp h; rw [List.any_eq_true]; exact ⟨p, hp, by simpa using e⟩), keys_map_store]
  · rw [if_neg h, if_neg (by rw [List.any_eq_true]; rintro ⟨p, hp, e⟩; exact h (List.mem_map.mpr ⟨p, hp, by simpa using e⟩)), List.map_append]; rfl
section
variable {prog : Program} {w : World} {A : Around} {E : Value → Shared → Prop} {s : Shared} {h₀ : Heap}
theorem EndOk.ofAny (H : HAny A h₀) : EndOk prog w A h₀ := by
  rcases H with h | ⟨x, ox, vs, r⟩
  · exact EndOk.ofNone h
  · exact EndOk.ofSome ⟨x, ox, vs, r⟩
abbrev tupOf (its : Array Value) (n : Nat) : Obj := { cls := .type "tuple", data := .seq its n }
def TupsAt (h : Heap) (vs : List Value) (ids : List Int) : Prop := vs.length = ids.length ∧ ∀ (i : Nat) (hi : i < ids.length), ∃ t x y n, vs[i]? = some (.ref t) ∧ h.get? t = some (tupOf #[.int ids[i] x, y] n)
theorem upd_loop {R : Result → Shared → Prop} {l I d : Addr} {vs : List Value} {ids : List Int} {h1 : Heap} {res : Value} (H : HAny A h₀) (k0 : ∀ b o, h₀.get? b = some o → h1.get? b = some o) (hI : h1.get? I = none) (hd : h1.get? d = none) (hId : I ≠ d)
    (hl : h1.IsList l vs.toArray) (hp : TupsAt h1 vs ids) (hsz : vs.length ≤ sizeLine)
    (hR : ∀ h' tk kvs, (∀ b o, h1.get? b = some o → h'.get? b = some o) → h'.DictOf (intKind prog w) d kvs → kvs.map (·.1) = keysOf ids → R (.ok (.ret res)) { s with heap := h', toks := tk }) :
    ∀ (k i : Nat) (g : Heap) (tk : Nat) (kvs : List (Int × Value)) (j : Int) (u : Tok), i + k = vs.length → (∀ b o, h1.get? b = some o → g.get? b = some o) → g.IsListIter I l i → g.DictOf (intKind prog w) d kvs → kvs.map (·.1) = keysOf (ids.take i) →
      codeAny (model prog w) A (.builtin "dict.update.loop" ⟨[.ref d, .ref I, .int j u, res], []⟩) R { s with heap := g, toks := tk } := by
  have hI0 : h₀.get? I = none := by
    cases q : h₀.get? I with
    | none => rfl
    | some o => rw [k0 _ _ q] at hI; cases hI
  have hlI : l ≠ I := fun q => by obtain ⟨o, e, _⟩ := hl; rw [q, hI] at e; cases e
  intro k
  induction k with
  | zero =>
    intro i g tk kvs j u hi hg hit hdg hk
    obtain rfl : i = vs.length := by omega
    refine codeAny_builtin entry_upd_loop ?_
    rw [Around.under_plainId plain_upd_loop _]
    show wpAny _ A.in1 (pyNext (.ref I) >>= _) _ _ _
    refine wpAny_bind (EndOk.ofAny (A := A.in1) H _ _ _ _ _ _ _ (fun b o e => hg b o (k0 b o e)) hI0 hit (Heap.IsList.at hl (hg _)) (by simp) fun h' he => ?_)
    have hdg' : h'.DictOf (intKind prog w) d kvs := hdg.extBut he (Ne.symm hId)
    show wpAny _ _ (Builtin.Dict.addKeywords d [] >>= fun _ => _) _ _ _
    refine wpAny_bind (wpAny_pure ?_)
    refine wpAny_pure (hR _ _ kvs (fun b o e => he b o (fun q => by rw [q, hI] at e; cases e) (hg b o e)) hdg' ?_)
    rw [hk, hp.1, List.take_length]
  | succ k ih =>
    intro i g tk kvs j u hi hg hit hdg hk
    have hlt : i < ids.length := by rw [← hp.1]; omega
    obtain ⟨t, x, y, n, hv, ht⟩ := hp.2 i hlt
    refine codeAny_builtin entry_upd_loop ?_
    rw [Around.under_plainId plain_upd_loop _]
    show wpAny _ A.in1 (pyNext (.ref I) >>= _) _ _ _
    refine wpAny_bind (wpAny_pyNext_list_item hit (Heap.IsList.at hl (hg _)) (x := .ref t) (by simpa using hv) fun g2 hit2 hs2 => ?_)
    have hdg2 : g2.DictOf (intKind prog w) d kvs := hdg.sameBut hs2 (Ne.symm hId)
    have hg2 : ∀ b o, h1.get? b = some o → g2.get? b = some o := fun b o e => hs2.extBut b o (fun q => by rw [q, hI] at e; cases e) (hg b o e)
    show wpAny _ _ (holding [.ref t] _ >>= _) _ _ _
    refine wpAny_bind (wpAny_holding ?_)
    refine wpAny_bind (wpAny_tryCatch ?_)
    unfold Builtin.Dict.pairItems
    refine wpAny_bind (wpAny_typeOf (T := "tuple") ⟨_, hg2 _ _ ht, rfl⟩ ?_)
    rw [if_pos (by decide)]
    refine wpAny_bind (wpAny_seqItems (hg2 _ _ ht) rfl (wpAny_pure ?_))
    dsimp only [Option.getD]
    refine wpAny_holding ?_
    have hlen : kvs.length ≤ i := by
      have := congrArg List.length hk
      rw [List.length_map] at this
      have := (keysOf_spec (ids.take i)).2.2.1
      rw [List.length_take] at this
      omega
    refine wpAny_dictSet_pairs (knd := intKind prog w) (intKind_is prog w ids[i] x) hdg2 (fun g3 hd3 hs3 => ?_) (by omega)
    refine wpAny_pure ⟨plainId_quiet plain_upd_loop _, ih (i + 1) g3 _ _ _ _ (by omega) (fun b o e => hs3.extBut b o (fun q => by rw [q, hd] at e; cases e) (hg2 b o e)) ?_ hd3 ?_⟩
    · obtain ⟨o, e, r⟩ := hit2
      exact ⟨o, hs3.extBut _ _ hId e, r⟩
    · rw [stored_keys, hk, List.take_succ_eq_append_getElem hlt, keysOf_snoc]

variable {L : Addr} {m : Str → Option Value} {news : List (Addr × Obj)}
def PairsAt (news : List (Addr × Obj)) (vs : List Value) (ids : List Int) : Prop := vs.length = ids.length ∧ ∀ (i : Nat) (hi : i < ids.length), ∃ t x y n, vs[i]? = some (.ref t) ∧ (t, tupOf #[.int ids[i] x, y] n) ∈ news
theorem c_dictP {l : Addr} {vs : List Value} {ids : List Int} {n : Nat} {Q : Value → Shared → Prop} (H : HAny A h₀) (F : Fr h₀ L s.heap m) (N : News h₀ L s.heap news) (hm : (l, listOf vs.toArray n) ∈ news) (hp : PairsAt news vs ids) (hsz : vs.length ≤ sizeLine) (hbig : sysModules < h₀.objs.size)
    (hQ : ∀ d o kvs h' tk, Fr h₀ L h' m → News h₀ L h' ((d, o) :: news) → (∀ p ∈ news, p.1 ≠ d) → o.IsDictOf (intKind prog w) kvs → kvs.length = (keysOf ids).length → (d == sysModules) = false → Q (.ref d) { s with heap := h', toks := tk }) :
    wpAny (model prog w) A (call (.type "dict") [.ref l]) Q E s := by
  refine callType_codes (Q₁ := fun obj s₁ => obj = .ref s.heap.objs.size ∧ s₁ = { s with heap := s.heap.push { cls := .type "dict", data := .dict #[] } }) PySem.F.kt_called_dict (PySem.F.kt_typeCall_dict_1 _) PySem.F.entry_dict_init (kt_code_dict_new _ ⟨rfl, rfl⟩) ?_
  rintro obj s₁ ⟨rfl, rfl⟩
  have hnew : (s.heap.push { cls := .type "dict", data := .dict #[] }).DictOf (intKind prog w) s.heap.objs.size [] := Heap.DictOf.new s.heap
  generalize hg : s.heap.push { cls := .type "dict", data := .dict #[] } = g at *
  have up : ∀ b o, s.heap.get? b = some o → g.get? b = some o := fun b o e => hg ▸ Heap.get?_push_of_some _ e
  have hgl : g.IsList l vs.toArray := Heap.IsList.at (News.isList N hm) (up _)
  have F1 : Fr h₀ L g m := F.keeps up
  have N1 : News h₀ L g news := N.grown up
  refine ⟨hnew.typeIs, PySem.F.args_dict_init_2 _ _, ?_⟩
  unfold Builtin.«dict.__init__»
  refine wpAny_bind ?_
  unfold Builtin.Dict.selfAndRest
  refine wpAny_bind (wpAny_notOrdered_dict hnew.typeIs ?_)
  show wpAny _ _ (pure (s.heap.objs.size, [Value.ref l])) _ _ _
  refine wpAny_pure ?_
  show wpAny _ _ (Builtin.Dict.updateFrom "dict.__init__" s.heap.objs.size (.ref l) [] .none) _ _ _
  unfold Builtin.Dict.updateFrom
  refine wpAny_bind (wpAny_typeOf (T := "list") hgl.typeIs ?_)
  rw [if_pos (by decide)]
  refine wpAny_bind (keys_list (A := A.in1.in1) (HAny.keeps (A := A.in1.in1) H F1.keep) (N1 _ hm).1 fun h2 tk2 k2 => ?_)
  simp only [Option.isNone_none, if_true]
  refine wpAny_bind (wpAny_rule ?_)
  have hl2 : h2.IsList l vs.toArray := Heap.IsList.at hgl (k2 _)
  refine wpAny_bind (wpAny_pyIter_list hl2 ?_)
  generalize hg3 : h2.push { cls := .type "list_iterator", data := .fields #[.ref l, .int 0 0] } = g3
  have hit : g3.IsListIter h2.objs.size l 0 := by rw [← hg3]; exact ⟨_, Heap.get?_push_size _ rfl, rfl, rfl⟩
  have up3 : ∀ b o, h2.get? b = some o → g3.get? b = some o := fun b o e => hg3 ▸ Heap.get?_push_of_some _ e
  have hlt : s.heap.objs.size < h2.objs.size := by
    obtain ⟨o, _, _, e, _⟩ := hnew
    exact Heap.lt_size (k2 _ _ e)
  have hdS : s.heap.get? s.heap.objs.size = none := by
    cases q : s.heap.get? s.heap.objs.size with
    | none => rfl
    | some o => exact absurd (Heap.lt_size q) (Nat.lt_irrefl _)
  have hIS : s.heap.get? h2.objs.size = none := by
    cases q : s.heap.get? h2.objs.size with
    | none => rfl
    | some o => exact absurd (Nat.lt_trans (Heap.lt_size q) hlt) (Nat.lt_irrefl _)
  refine wpAny_pure ⟨plainId_quiet plain_upd_loop _, ?_⟩
  refine upd_loop (s := { s with heap := g3, toks := tk2 }) (h1 := s.heap) (A := A.in1) (ids := ids) H F.keep hIS hdS (Ne.symm (Nat.ne_of_lt hlt)) (News.isList N hm) ⟨hp.1, fun i hi => ?_⟩ hsz ?_ vs.length 0 g3 tk2 [] 0 0 (Nat.zero_add _) (fun b o e => up3 b o (k2 b o (up b o e))) hit
    (Heap.DictOf.keep hnew fun b o e => up3 b o (k2 b o e)) rfl
  · obtain ⟨t, x, y, k, e1, e2⟩ := hp.2 i hi
    exact ⟨t, x, y, k, e1, (N _ e2).1⟩
  · intro h' tk kvs kp hdh hk
    obtain ⟨o', ho', hd'⟩ := Heap.dictOf_iff.mp hdh
    have N2 := News.push F N { cls := .type "dict", data := .dict #[] }
    refine ⟨rfl, hQ _ o' kvs h' tk (F.keeps kp) (fun p hp => ?_) N.apart hd' (by rw [← hk, List.length_map]) (F.notModules hbig)⟩
    rcases List.mem_cons.mp hp with rfl | hp
    · exact ⟨ho', (N2 _ (.head _)).2⟩
    · exact ⟨kp _ _ (N p hp).1, (N p hp).2⟩
theorem len_dictL {d : Addr} {o : Obj} {kvs : List (Int × Value)} {Q : Value → Shared → Prop} (N : News h₀ L s.heap news) (hm : (d, o) ∈ news) (hd : o.IsDictOf (intKind prog w) kvs) (hne : (d == sysModules) = false) (hfit : (kvs.length : Int) < 2 ^ 63)
    (h : ∀ t tk, Q (.int kvs.length t) { s with toks := tk }) : wpAny (model prog w) A (call (.builtin "len") [.ref d]) Q E s :=
  call_len_dict hne (Heap.dictOf_iff.mpr ⟨o, (N _ hm).1, hd⟩) hfit (h _ _)
end
end
section
section
variable {prog : Program} {w : World} {A A₀ : Around} {E : Value → Shared → Prop} {s : Shared} {h₀ base : Heap} {L : Addr} {m mg mb : Str → Option Value} {news : List (Addr × Obj)} {K : Frag} {p : Program} {loose : List Str} {mean : ExcName → Option Value}
/-- as HAny, and the exception is none of the ledger's things -/
def HS (A : Around) (h : Heap) (news : List (Addr × Obj)) : Prop := A.handled = none ∨ ∃ x ox vs, A.handled = some (.ref x) ∧ h.get? x = some ox ∧ ox.data = .fields vs ∧ vs[2]? = some .none ∧ ∀ p ∈ news, p.1 ≠ x
theorem HS.ofNone {h : Heap} (hh : A.handled = none) : HS A h news := .inl hh
theorem HS.ofAny {h : Heap} (H : HAny A h₀) (F : Fr h₀ L h m) (N : News h₀ L h news) : HS A h news :=
  H.imp id fun ⟨x, ox, vs, a, b, c, d⟩ => ⟨x, ox, vs, a, F.keep _ _ b, c, d, fun p hp q => by have := (N p hp).2.2; rw [q, b] at this; cases this⟩

theorem code_defH {env : Env} {outer : List Env} {R : Result → Shared → Prop} {name qual : Str} {params : Arguments} {body : List Stmt} {scope : Scope} {dV kV doc pm cdv ct oc : Value} {an od : Option Addr} {osl : Array (Option Value)} {f : Addr} {args : Args} {binds : List (Str × Value)}
    (H : HS A s.heap news)
    (B : Below A₀ base outer h₀) (F : Fr h₀ L s.heap m) (X₀ : K.In h₀) (N : News h₀ L s.heap news) (T : Top p loose mean mg mb h₀) (hA : A.frames = some (env :: outer)) (hf : env.frame = some L) (hke : env.scope.kind = .function)
    (ho : K.lookup f = some ⟨oc, od, .func (fnOf name qual params body scope dV kV doc pm an cdv ct), osl⟩) (hcd : codeIn K cdv qual = true) (hroom : A.depth < recursionLimit)
    (hbind : BindsTo s (fnOf name qual params body scope dV kV doc pm an cdv ct) args binds) (hloc : ∀ y ∈ binds, scope.names.lookup y.1 = some .local)
    (h : ∀ g L' h₁, HAny (A.deeper (envOf qual scope L' f cdv)) g → Fr h₀ L g m → Fr g L' h₁ (fun y => binds.reverse.lookup y) → News g L' h₁ news → Below A base (env :: outer) g → K.In g → Top p loose mean mg mb g →
      wpAny (model prog w) (A.deeper (envOf qual scope L' f cdv)) (execs body (envOf qual scope L' f cdv))
        (fun fl s' => LeaveK h₀ L m g R (match fl with | .ret v => v | _ => .none) s')
        (fun e s' => wpAny (model prog w) (A.deeper (envOf qual scope L' f cdv)) (leaving (envOf qual scope L' f cdv) e) (fun _ s'' => R (.error e) s'') (fun e' s'' => R (.error e') s'') s')
        { s with heap := h₁, toks := s.toks + binds.length })
    (hco : scope.isCoroutine = false) (hgen : scope.isGenerator = false) (hk : scope.kind = .function)
    (hcell : ∀ x ∈ scope.names, x.2 ≠ .cell) : codeAny (model prog w) A (.call (.ref f) args) R s := by
  obtain ⟨FG, BG, st, lv⟩ := groundX (R := R) B F N hA hf hke
  refine codeAny_call_def (fd := fnX name qual params body scope [] dV kV doc pm an cdv ct) (body := body) (binds := binds) hroom ((X₀.keeps F.keep) _ _ ho) rfl (T.nolimit.keeps F.keep) (codeRec_of (X₀.keeps F.keep) hcd) rfl hbind hcell hloc (fun h₁ hns hk₁ => ?_) hco hgen hk
  exact wpAny_mono (h _ s.heap.objs.size h₁ (H.imp id fun ⟨x, ox, vs, a, b, c, d, e⟩ => ⟨x, ox, vs, a, hideAll_get _ b fun q => by obtain ⟨p, hp, e'⟩ := List.mem_map.mp q; exact e p hp e', c, d⟩) FG ⟨hns, fun b o e => hk₁ b o (of_hideAll _ e), Nat.le_of_eq (hideAll_size _ _)⟩
    (fun p hp => ⟨hk₁ _ _ (N p hp).1, Nat.ne_of_lt (Heap.lt_size (N p hp).1), hideAll_none _ (List.mem_map_of_mem hp)⟩) BG (X₀.keeps st) (T.keeps st)) (fun fl s' hl => lv _ _ hl) fun _ _ y => y
end

section
variable {prog : Program} {w : World} {A : Around} {E : Value → Shared → Prop} {s : Shared} {h₀ : Heap}
theorem range_endH {it : Addr} {x left step : Int} {Q : Option Value → Shared → Prop} (H : HAny A h₀) (k : ∀ b o, h₀.get? b = some o → s.heap.get? b = some o) (hn : h₀.get? it = none) (hit : IsRangeIter s.heap it x left step) (hleft : left ≤ 0)
    (hQ : ∀ h', Heap.ExtBut it s.heap h' → Q none { s with heap := h' }) : wpAny (model prog w) A (pyNext (.ref it)) Q E s := by
  have hT : s.TypeIs (.ref it) "range_iterator" := ⟨_, hit, rfl⟩
  unfold pyNext
  refine wpAny_bind (wpAny_attempt (wpAny_callSpecial?_slot (name := Str.ofString "__next__") hT PySem.F.slot_range_iterator_next
    (wpAny_call_entry PySem.F.slot_range_iterator_next hT PySem.F.entry_range_iterator_next ?_ (PySem.F.args_range_iterator_next_1 _))))
  show wpAny _ _ (field (.ref it) 0 >>= _) _ _ s
  refine wpAny_bind (wpAny_field hit rfl (x := rawInt x) rfl ?_)
  show wpAny _ _ (field (.ref it) 1 >>= _) _ _ s
  refine wpAny_bind (wpAny_field hit rfl (x := rawInt left) rfl ?_)
  show wpAny _ _ (field (.ref it) 2 >>= _) _ _ s
  refine wpAny_bind (wpAny_field hit rfl (x := rawInt step) rfl ?_)
  show wpAny _ _ (if left ≤ 0 then _ else _) _ _ s
  rw [if_pos hleft]
  refine wpAny_bind (wpAny_rule ?_)
  refine wpAny_bind ?_
  show wpAny _ _ (newExc (.type "StopIteration") [] >>= _) _ _ _
  refine wpAny_bind ?_
  simp only [newExc, newTuple]
  refine wpAny_bind (wpAny_newObj_type ?_ (by size_fits))
  refine wpAny_bind (m := firstArgMember _ _) (wpAny_of_eq (a := Value.none) (by first | rfl | (simp only [firstArgMember]; rfl)) ?_)
  refine wpAny_newObj_type ?_ (by size_fits)
  generalize hg : s.heap.push { cls := .type "tuple", data := .seq ([] : List Value).toArray } = g
  have up : ∀ b o, s.heap.get? b = some o → g.get? b = some o := fun b o e => hg ▸ Heap.get?_push_of_some _ e
  have hna : s.heap.get? g.objs.size = none := by
    cases q : s.heap.get? g.objs.size with
    | none => rfl
    | some o => exact absurd (Heap.lt_size (up _ _ q)) (Nat.lt_irrefl _)
  have ha := Heap.get?_push_size g (o := { cls := .type "StopIteration", data := .fields (#[.ref s.heap.objs.size, .none, .none, .none, .bool false, .none] ++ ownMembersOf (.type "StopIteration") []) }) rfl
  refine raiseNew_any (A := A.in1) (h₀ := s.heap) (HAny.keeps (A := A.in1) H k) (fun b o e => Heap.get?_push_of_some _ (up b o e)) hna ha rfl (by rw [Array.size_append]; exact Nat.lt_of_lt_of_le (by decide) (Nat.le_add_right 6 _)) ?_
  rintro h' he ⟨o', ho', hc⟩
  refine wpAny_bind (wpAny_isInstance (T := "StopIteration") (b := true) ⟨_, ho', hc⟩ isSubtype_stop ?_)
  exact wpAny_pure (hQ _ fun b o hb e => he b o (fun q => by rw [q, hna] at e; cases e) (Heap.get?_push_of_some _ (up b o e)))

theorem extend_rangeH {R : Result → Shared → Prop} {S I : Addr} {a : Int} {n : Nat} {h1 : Heap} {res : Value} (H : HAny A h₀) (k0 : ∀ b o, h₀.get? b = some o → h1.get? b = some o) (hI : h1.get? I = none) (hS : h1.get? S = none) (hSI : S ≠ I) (hsz : n ≤ sizeLine)
    (hR : ∀ h' tk acc c, (∀ b o, h1.get? b = some o → h'.get? b = some o) → h'.get? S = some { cls := .type "list", dict := none, data := .seq acc c, slots := #[] } → ItemsOf (fun i v => ∃ t, v = .int (a + (i : Int)) t) acc n → R (.ok (.ret res)) { s with heap := h', toks := tk }) :
    ∀ (k i : Nat) (g : Heap) (tk : Nat) (acc : Array Value) (c : Nat), i + k = n → (∀ b o, h1.get? b = some o → g.get? b = some o) → IsRangeIter g I (a + (i : Int)) ((n : Int) - (i : Int)) 1 → g.get? S = some { cls := .type "list", dict := none, data := .seq acc c, slots := #[] } →
      ItemsOf (fun i v => ∃ t, v = .int (a + (i : Int)) t) acc i → codeAny (model prog w) A (.builtin "list.extend.loop" ⟨[.ref S, .ref I, res], []⟩) R { s with heap := g, toks := tk } := by
  have hI0 : h₀.get? I = none := by
    cases q : h₀.get? I with
    | none => rfl
    | some o => rw [k0 _ _ q] at hI; cases hI
  intro k
  induction k with
  | zero =>
    intro i g tk acc c hi hg hit hSg hacc
    obtain rfl : i = n := by omega
    refine codeAny_builtin PySem.F.entry_extend_loop ?_
    rw [Around.under_plainId PySem.F.plain_extend_loop _]
    show wpAny _ A.in1 (pyNext (.ref I) >>= _) _ _ _
    refine wpAny_bind (range_endH (A := A.in1) H (fun b o e => hg b o (k0 b o e)) hI0 hit (by omega) fun h' he => ?_)
    exact wpAny_pure (hR _ _ acc c (fun b o e => he b o (fun q => by rw [q, hI] at e; cases e) (hg b o e)) (he _ _ hSI hSg) hacc)
  | succ k ih =>
    intro i g tk acc c hi hg hit hSg hacc
    refine codeAny_builtin PySem.F.entry_extend_loop ?_
    rw [Around.under_plainId PySem.F.plain_extend_loop _]
    show wpAny _ A.in1 (pyNext (.ref I) >>= _) _ _ _
    refine wpAny_bind (wpAny_pyNext_range_item hit (by omega) fun g2 hit2 hs2 => ?_)
    have hS2 := hs2.extBut _ _ hSI hSg
    show wpAny _ A.in1 (updateSeq S (·.push _) >>= _) _ _ _
    refine wpAny_bind ?_
    refine wpAny_updateSeq hS2 rfl (wpAny_pure ⟨plainId_quiet PySem.F.plain_extend_loop _, ih (i + 1) _ _ (acc.push _) _ (by omega) (fun b o e => ?_) ?_ (Heap.get?_update_self _ hS2 rfl) (hacc.push ⟨_, rfl⟩)⟩) (by rw [hacc.1]; omega) (by show (acc.push _).size ≤ sizeLine + 1; rw [Array.size_push, hacc.1]; omega)
    · exact (Heap.get?_update_other _ _ (fun q => by rw [← q, hS] at e; cases e)).trans (hs2.extBut b o (fun q => by rw [q, hI] at e; cases e) (hg b o e))
    · have e1 : a + ((i + 1 : Nat) : Int) = a + (i : Int) + 1 := by omega
      have e2 : (n : Int) - ((i + 1 : Nat) : Int) = (n : Int) - (i : Int) - 1 := by omega
      rw [e1, e2]
      exact (Heap.get?_update_other _ _ hSI).trans hit2

theorem list_rangeH {Q : Value → Shared → Prop} {r : Addr} {a b : Int} {t u v : Tok} {n : Nat} (H : HAny A h₀) (k0 : ∀ b o, h₀.get? b = some o → s.heap.get? b = some o) (hr : IsRange s.heap r a b 1 t u v) (hsmall : Builtin.Range.small a b 1 = true)
    (hn : Builtin.Range.rangeSize a b 1 = n) (hlen : n ≤ 2 ^ 24)
    (hQ : ∀ h' tk acc' c', (∀ b o, s.heap.get? b = some o → h'.get? b = some o) →
      h'.get? s.heap.objs.size = some { cls := .type "list", dict := none, data := .seq acc' c', slots := #[] } → ItemsOf (fun i v => ∃ t, v = .int (a + (i : Int)) t) acc' n → Q (.ref s.heap.objs.size) { s with heap := h', toks := tk }) :
    wpAny (model prog w) A (call (.type "list") [.ref r]) Q E s := by
  refine callType_codes (Q₁ := fun obj s₁ => obj = .ref s.heap.objs.size ∧ s₁ = { s with heap := s.heap.push { cls := .type "list", data := .seq #[] } }) PySem.F.called_list (PySem.F.typeCall_list_1 _) PySem.F.entry_list_init
    (code_list_new _ ⟨rfl, rfl⟩) fun obj s₁ h₁ => ?_
  obtain ⟨rfl, rfl⟩ := h₁
  have hSfresh : s.heap.get? s.heap.objs.size = none := by
    cases q : s.heap.get? s.heap.objs.size with
    | none => rfl
    | some o => exact absurd (Heap.lt_size q) (Nat.lt_irrefl _)
  have hS : (s.heap.push { cls := .type "list", data := .seq #[] }).get? s.heap.objs.size = some { cls := .type "list", data := .seq #[] } := Heap.get?_push_size _ rfl
  refine ⟨⟨_, hS, rfl⟩, PySem.F.args_list_init_2 _ _, ?_⟩
  have hSr : s.heap.objs.size ≠ r := fun q => by have e : s.heap.get? r = some _ := hr; rw [← q, hSfresh] at e; cases e
  generalize hSS : s.heap.objs.size = S at *
  have up0 : ∀ b o, s.heap.get? b = some o → (s.heap.push { cls := .type "list", data := .seq #[] }).get? b = some o := fun b o e => Heap.get?_push_of_some _ e
  generalize hg0 : s.heap.push { cls := .type "list", data := .seq #[] } = g0 at *
  show wpAny _ _ (do let old ← Builtin.List.listItems (.ref S); Builtin.List.listUpdate (.ref S) (fun _ => #[]); letGo old.toList.reverse; Builtin.List.listExtendWith (.ref S) (.ref r) .none) _ _ _
  refine wpAny_bind ?_
  unfold Builtin.List.listItems
  refine wpAny_bind (wpAny_seqItems hS rfl (wpAny_pure ?_))
  show wpAny _ _ (updateSeq S (fun _ => #[]) >>= fun _ => letGo (#[] : Array Value).toList.reverse >>= fun _ => Builtin.List.listExtendWith (.ref S) (.ref r) .none) _ _ _
  refine wpAny_bind (wpAny_updateSeq hS rfl ?_)
  have hS₂ := Heap.get?_update_self (Obj.mapSeq (fun _ => (#[] : Array Value))) hS rfl
  have up1 : ∀ b o, s.heap.get? b = some o → (g0.update S (Obj.mapSeq (fun _ => (#[] : Array Value)))).get? b = some o := fun b o e => (Heap.get?_update_other _ _ (fun q => by rw [← q, hSfresh] at e; cases e)).trans (up0 b o e)
  refine wpAny_bind (wpAny_letGo ?_)
  generalize hg1 : g0.update S (Obj.mapSeq (fun _ => (#[] : Array Value))) = g1 at *
  have hr1 : IsRange g1 r a b 1 t u v := up1 _ _ hr
  unfold Builtin.List.listExtendWith
  refine wpAny_bind (wpAny_typeOf (T := "range") ⟨_, hr1, rfl⟩ ?_)
  have h1 : Builtin.List.listSameRef (.ref S) (.ref r) = false := by simp [Builtin.List.listSameRef, hSr]
  have h2 : (Value.type "range" == Value.type "list") = false := by decide
  have h3 : (Value.type "range" == Value.type "tuple") = false := by decide
  simp only [h1, h2, h3, Bool.or_false, Bool.false_eq_true, if_false]
  refine wpAny_bind (wpAny_pyIter_range hr1 hsmall ?_)
  have hSlt : S < g1.objs.size := Heap.lt_size hS₂
  have hslt : s.heap.objs.size ≤ g1.objs.size := by rw [hSS]; exact Nat.le_of_lt hSlt
  have hIs : s.heap.get? g1.objs.size = none := by
    cases q : s.heap.get? g1.objs.size with
    | none => rfl
    | some o => exact absurd (Nat.lt_of_lt_of_le (Heap.lt_size q) hslt) (Nat.lt_irrefl _)
  have hSI : S ≠ g1.objs.size := Nat.ne_of_lt hSlt
  have hit₁ : IsRangeIter (g1.push { cls := .type "range_iterator", data := .fields #[rawInt a, rawInt (Builtin.Range.rangeSize a b 1), rawInt 1] }) g1.objs.size (a + ((0 : Nat) : Int)) ((n : Int) - ((0 : Nat) : Int)) 1 := by
    show IsRangeIter _ _ _ _ _; rw [hn]; simpa using Heap.get?_push_size _ rfl
  have up2 : ∀ z o, g1.get? z = some o → (g1.push { cls := .type "range_iterator", data := .fields #[rawInt a, rawInt (Builtin.Range.rangeSize a b 1), rawInt 1] }).get? z = some o := fun z o e => Heap.get?_push_of_some _ e
  generalize hg2 : g1.push { cls := .type "range_iterator", data := .fields #[rawInt a, rawInt (Builtin.Range.rangeSize a b 1), rawInt 1] } = g2 at *
  refine wpAny_bind (wpAny_holding (wpAny_hint_range (n := n) (up2 _ _ hr1) hn hlen ?_))
  have fin : ∀ (g : Heap) (c tk : Nat), (∀ b o, s.heap.get? b = some o → g.get? b = some o) → IsRangeIter g g1.objs.size (a + ((0 : Nat) : Int)) ((n : Int) - ((0 : Nat) : Int)) 1 → g.get? S = some { cls := .type "list", data := .seq #[] c } →
      codeAny (model prog w) A.in1 (.builtin "list.extend.loop" ⟨[.ref S, .ref g1.objs.size, .none], []⟩) (wants (fun r s₂ => r = Value.none ∧ Q (Value.ref S) s₂) E) { s with heap := g, toks := tk } := by
    intro g c tk hk hit hSg
    refine extend_rangeH (A := A.in1) (h1 := s.heap) (a := a) (n := n) H k0 hIs hSfresh hSI (by rw [sizeLine_eq]; omega) (fun h' tk acc' c' k' hS' hit' => ?_) n 0 g tk #[] c (by omega) hk hit hSg (ItemsOf.nil _)
    exact ⟨rfl, hQ h' tk acc' c' k' hS' hit'⟩
  refine wpAny_ite_split (fun _ => ?_) (fun _ => wpAny_pure ⟨plainId_quiet PySem.F.plain_extend_loop _, fin _ _ _ (fun b o e => up2 b o (up1 b o e)) hit₁ (up2 _ _ hS₂)⟩)
  refine wpAny_bind (wpAny_rule ?_)
  refine wpAny_bind ?_
  show wpAny _ _ (updateSeq S (·.push .none) >>= fun _ => updateSeq S (·.pop)) _ _ _
  refine wpAny_bind (wpAny_updateSeq (up2 _ _ hS₂) rfl ?_)
  have hS₃ := Heap.get?_update_self (Obj.mapSeq (·.push Value.none)) (up2 _ _ hS₂) rfl
  refine wpAny_updateSeq (hz := by seq_fits) hS₃ rfl ?_
  have hS₄ := Heap.get?_update_self (Obj.mapSeq (·.pop)) hS₃ rfl
  refine wpAny_pure ⟨plainId_quiet PySem.F.plain_extend_loop _, fin _ _ _ (fun b o e => ?_) ?_ hS₄⟩
  · have nb : S ≠ b := fun q => by rw [← q, hSfresh] at e; cases e
    exact (Heap.get?_update_other _ _ nb).trans ((Heap.get?_update_other _ _ nb).trans (up2 b o (up1 b o e)))
  · exact (Heap.get?_update_other _ _ hSI).trans ((Heap.get?_update_other _ _ hSI).trans hit₁)
end
end
section
section
variable {w : World} {A A₀ : Around} {base h₀ : Heap} {outer : List Env} {env : Env} {L : Addr} {m : Str → Option Value} {s : Shared} {news : List (Addr × Obj)} {mg mb : Str → Option Value} {mean : ExcName → Option Value}
  {Q E : Value → Shared → Prop}
theorem list_rangeL {prog : Program} {r : Addr} {a b : Int} {t₀ u₀ v₀ : Tok} {n : Nat} (H : HAny A h₀) (F : Fr h₀ L s.heap m) (N : News h₀ L s.heap news) (hr : IsRange s.heap r a b 1 t₀ u₀ v₀) (hsmall : Builtin.Range.small a b 1 = true) (hn : Builtin.Range.rangeSize a b 1 = (n : Int)) (hz : n ≤ 2 ^ 24)
    (h : ∀ D us c h' tk, Fr h₀ L h' m → News h₀ L h' ((D, listOf (List.toArray us) c) :: news) → (∀ p ∈ news, p.1 < D) → IntsAre us (rangeKs a n) → Q (.ref D) { s with heap := h', toks := tk }) :
    wpAny (model prog w) A (call (.type "list") [.ref r]) Q E s := by
  refine list_rangeH H F.keep hr hsmall hn hz fun h' tk acc c hk hD hI => ?_
  have hD' : h'.get? s.heap.objs.size = some (listOf (List.toArray acc.toList) c) := by
    rw [Array.toArray_toList]
    exact hD
  exact h _ acc.toList c h' tk (F.keeps hk) (news_pushed F N hk hD' rfl) (fun p hp => Heap.lt_size (N p hp).1) (kll_ints _ _ _ (by rw [Array.length_toList]; exact hI.1) fun j v hj => by
    obtain ⟨t, e⟩ := hI.2 j v (by rw [← hj, Array.getElem?_toList])
    exact ⟨t, by rw [e, Int.mul_one]⟩)
theorem upd_dictL {prog : Program} {d o₂ : Addr} {o oo : Obj} {g : Obj → List (Addr × Obj)} {kvs more : List (Int × Value)} (F : Fr h₀ L s.heap m) (N : News h₀ L s.heap news) (U : UpdF d o news g) (hd : o.IsDictOf (intKind prog w) kvs)
    (hm : (o₂, oo) ∈ news) (h2 : oo.IsDictOf (intKind prog w) more) (hS : (o₂ == sysModules) = false) (hne : d ≠ o₂) (hsz : kvs.length + more.length ≤ sizeLine)
    (h : ∀ h' o', Fr h₀ L h' m → News h₀ L h' (g o') → o'.IsDictOf (intKind prog w) (merged kvs more) → Q .none { s with heap := h' }) :
    wpAny (model prog w) A (call (.builtin "dict.update") [.ref d, .ref o₂]) Q E s := by
  obtain ⟨own, rest, rfl, hg, h1, h2'⟩ := U.split
  have hmm := N (d, o) (List.mem_append_right _ (.head _))
  have hD : s.heap.DictOf (intKind prog w) d kvs := Heap.dictOf_iff.mpr ⟨o, hmm.1, hd⟩
  have hD2 : s.heap.DictOf (intKind prog w) o₂ more := Heap.dictOf_iff.mpr ⟨oo, (N _ hm).1, h2⟩
  refine call_meetsIn PySem.F.slot_dict_update hD.typeIs PySem.F.entry_dict_update (PySem.F.args_dict_update_2 _ _) (meets_dict_update (intKind prog w) d o₂ hne hS)
    ⟨kvs, more, hD, hD2, hsz, fun h' hmm' _ hs => ?_⟩
  obtain ⟨o', ho', hd'⟩ := Heap.dictOf_iff.mp hmm'
  exact h h' o' (F.change hs hmm.2.1 hmm.2.2) (hg o' ▸ N.setIn h1 h2' hs ho') hd'
def kindTab : List (Int × Str × List Int) := [(192, "baseline", [8]), (193, "extended", [8, 12]), (194, "progressive", [8, 12]), (195, "lossless", [2, 3, 4, 5, 6, 7, 8, 9, 10, 11, 12, 13, 14, 15, 16]), (201, "arith", [8, 12]), (202, "arith progressive", [8, 12])]
def RowK (news : List (Addr × Obj)) (kv : Int × Value) (r : Int × Str × List Int) : Prop := kv.1 = r.1 ∧ ∃ a t p n n' vs, kv.2 = .ref a ∧ (a, listOf #[.str r.2.1 t, .ref p] n) ∈ news ∧ (p, listOf (List.toArray vs) n') ∈ news ∧ IntsAre vs r.2.2
theorem RowK.intro {news : List (Addr × Obj)} {a p : Addr} {n n' : Nat} {t : Tok} {k : Int} {nm : Str} {vs : List Value} {ps : List Int} (h1 : (a, listOf #[.str nm t, .ref p] n) ∈ news) (h2 : (p, listOf (List.toArray vs) n') ∈ news) (h3 : IntsAre vs ps) : RowK news (k, .ref a) (k, nm, ps) :=
  ⟨rfl, a, t, p, n, n', vs, rfl, h1, h2, h3⟩
theorem RowK.sub {a b : List (Addr × Obj)} (h : ∀ p ∈ a, p ∈ b) {kv r} (x : RowK a kv r) : RowK b kv r :=
  let ⟨e, a, t, p, n, n', vs, e1, e2, e3, e4⟩ := x; ⟨e, a, t, p, n, n', vs, e1, h _ e2, h _ e3, e4⟩
theorem pack1 {h : Heap} {pre : List (Addr × Obj)} {d : Addr} {o : Obj} (N : News h₀ L h (pre ++ (d, o) :: news)) (h1 : ∀ p ∈ pre, p.1 ≠ d) (h2 : ∀ p ∈ news, p.1 ≠ d) :
    ∃ rest, News h₀ L h ((d, o) :: rest) ∧ (∀ p ∈ rest, p.1 ≠ d) ∧ (∀ p ∈ pre, p ∈ rest) ∧ Grows news rest ∧ (∀ p ∈ rest, p.1 < h.objs.size) :=
  ⟨pre ++ news, fun p hp => N p (by
      rcases List.mem_cons.mp hp with rfl | hp
      · simp
      · rcases List.mem_append.mp hp with hp | hp
        · exact List.mem_append_left _ hp
        · exact List.mem_append_right _ (.tail _ hp)), fun p hp => (List.mem_append.mp hp).elim (h1 p) (h2 p), fun p hp => List.mem_append_left _ hp, fun p hp => List.mem_append_right _ hp, fun p hp => Heap.lt_size (N p (by
        rcases List.mem_append.mp hp with hp | hp
        · exact List.mem_append_left _ hp
        · exact List.mem_append_right _ (.tail _ hp))).1⟩
def KindsAt (w : World) (news : List (Addr × Obj)) (d : Addr) : Prop := ∃ o kvs, (d, o) ∈ news ∧ o.IsDictOf (intKind Challenge.rw_nz0252_01.row.prog w) kvs ∧ (d == sysModules) = false ∧
  Paired (RowK news) kvs kindTab
local macro_rules | `(tactic| k_all) => `(tactic| assumption)
local macro_rules | `(tactic| k_mem) => `(tactic| first | assumption | (refine List.Mem.tail _ ?_; assumption))
local macro_rules | `(tactic| walk_at "getMethod ref") => `(tactic| (k_here; (with_reducible show wpAny _ _ (getMethod (Value.ref _) (Str.ofString "update") _) _ _ _); k_dflt (refine kdl_method (knd := intKind _ _) PySem.F.slot_dict_update PySem.F.type_dict_update (by k_asm) (by k_mem) (by k_asm) ?_)))
local macro_rules | `(tactic| walk_at "call builtin:dict.update") => `(tactic| (k_here; (with_reducible show wpAny _ _ (call (Value.builtin "dict.update") [Value.ref _, Value.ref _]) _ _ _); k_dflt (refine' upd_dictL ?F ?N ?U ?d ?m ?e ?l ?n ?z ?_; (case F => k_asm); (case N => k_asm); (case U => k_updF); (case d => k_asm); (case m => k_mem); (case e => k_asm); (case l => k_asm); (case n => k_ne); (case z => exact Nat.le_of_ble_eq_true rfl)); intro h' o' F' N' hd'; (try dsimp only at N'); (try k_sweep)))
local macro_rules | `(tactic| walk_at "call type:list") => `(tactic| (k_here; (with_reducible show wpAny _ _ (call (Value.type "list") [Value.ref _]) _ _ _); (rename IsRange _ _ _ _ _ _ _ _ => rgX); k_dflt (refine' list_rangeL (n := 15) ?H ?F ?N rgX ?s ?n ?z ?_; (case H => assumption); (case F => k_asm); (case N => k_asm); (case s => rfl); (case n => rfl); (case z => decide)); intro D' us' c' h' tk' F' N' l1 i1; (try k_lt l1); (try k_sweep)))
local macro_rules | `(tactic| walk_at "exec Expr") => `(tactic| ((with_reducible show wpAny _ _ (exec (Stmt.Expr _ _) _) _ _ _); refine Stop.to ?_))
theorem c_kinds
    (F : Fr h₀ L s.heap m) (B : Below A₀ base outer h₀) (X : (hd.heap_39 w.params).In h₀) (T : Top hd.view_39 (looseW hd.view_39 []) mean mg mb h₀)
    (hA : A.frames = some (env :: outer)) (hf : env.frame = some L) (hke : env.scope.kind = .function) (hS : HS A s.heap news) (hdp : A.depth ≤ 600) (hun : A.units ≤ 2000)
    (N : News h₀ L s.heap news)
    (hret : ∀ d news' h' tk', Fr h₀ L h' m → News h₀ L h' news' → KindsAt w news' d → Grows news news' → Q (.ref d) { s with heap := h', toks := tk' }) :
    wpAny (model Challenge.rw_nz0252_01.row.prog w) A (call (.ref 355) []) Q E s := by

  revert X; k_fill; intro X
  refine up hdp hun rfl hA ?_
  refine wpAny_call ?_
  k_dflt (refine' code_defH (binds := []) hS ?k1 ?k2 ?k3 ?k4 ?k5 ?kA ?kF ?kK ?k6 ?k7 ?k8 ?k9 ?kB ?_ ?c2 ?c3 ?c4 ?c5; (case kA => exact rfl); (case kF => assumption); (case kK => assumption); (case k1 => k_asm); (case k2 => k_asm); (case k3 => k_asm); (case k4 => k_asm); (case k5 => k_asm); (case k6 => k_is); (case k7 => k_is); (case k8 => k_room); (case k9 => exact BindsTo.of_eq rfl); (case c5 => decide); (case kB => exact locs rfl); (case c2 => exact rfl); (case c3 => exact rfl); (case c4 => exact rfl); k_whole; intro g' L' h' HG' FG' F' N' B' X' T'; (try dsimp only); (try k_lift B'); (try k_fold))
  k_steps
  rename News _ _ _ _ => N1
  rename Obj.IsDictOf _ _ _ => D1
  obtain ⟨rest, N2, hne, hsub, hgr, hlt⟩ := pack1 (pre := [_, _, _, _, _, _]) N1 (by k_all) (by intro p hp; exact Nat.ne_of_lt (by apply_assumption; exact hp))
  have R1 := RowK.intro (news := rest) (k := 192) (nm := "baseline") (ps := [8]) (vs := [_]) (hsub _ (by k_mem)) (hsub _ (by k_mem)) (.cons _ _ .nil)
  have R2 := RowK.intro (news := rest) (k := 193) (nm := "extended") (ps := [8, 12]) (vs := [_, _]) (hsub _ (by k_mem)) (hsub _ (by k_mem)) (.cons _ _ (.cons _ _ .nil))
  have R3 := RowK.intro (news := rest) (k := 194) (nm := "progressive") (ps := [8, 12]) (vs := [_, _]) (hsub _ (by k_mem)) (hsub _ (by k_mem)) (.cons _ _ (.cons _ _ .nil))
  clear N1 hsub
  (repeat (rename (@LT.lt Nat _ _ _) ∧ _ => hl; clear hl))
  refine Stop.of ?_
  k_here
  refine wpAny_Expr_any ?_
  k_steps
  rename Obj.IsDictOf _ _ _ => D2
  rename IntsAre _ _ => I2
  refine hret _ _ _ _ (by k_asm) (by k_asm) ⟨_, [(192, _), (193, _), (194, _), (195, _), (201, _), (202, _)], by k_mem, D2, by assumption, .cons (RowK.sub ?_ R1) (.cons (RowK.sub ?_ R2) (.cons (RowK.sub ?_ R3)
    (.cons (RowK.intro (by k_mem) (by k_mem) I2) (.cons (RowK.intro (vs := [_, _]) (by k_mem) (by k_mem) (.cons _ _ (.cons _ _ .nil))) (.cons (RowK.intro (vs := [_, _]) (by k_mem) (by k_mem) (.cons _ _ (.cons _ _ .nil))) .nil)))))⟩ ?_
  all_goals first | (refine Grows.trans hgr ?_) | skip
  all_goals
    intro p hp
    k_mem
end
end
section
section
variable {M : Model} {A : Around} {E : Value → Shared → Prop} {s : Shared} {B : Heap} {l : List Env} {env : Env} {outer : List Env} {L e C : Addr} {Q : Unit → Shared → Prop}

/-- the exception e, of class C and without a context, on its way (or held at a frame: fl), over what B holds -/
structure XAt (B : Heap) (l : List Env) (e C : Addr) (fl : Value) (h : Heap) : Prop where
  stays : B.StaysIn h
  new : B.get? e = none
  frames : h.FunFrames B l
  traced : ∃ oe vs T oT ts, h.get? e = some oe ∧ oe.cls = .ref C ∧ oe.data = .fields vs ∧ vs[1]? = some (.ref T) ∧ vs[2]? = some .none ∧ B.get? T = none ∧ T ≠ e ∧ h.get? T = some oT ∧ oT.data = .fields ts ∧ ts[3]? = some fl

theorem x_entry {oe : Obj} {vs : Array Value} {head : Value} {hadNext : Bool}
    (hfr : A.frames = some (env :: outer)) (hl : s.heap.FunFrames B (env :: outer)) (hf : env.frame = some L) (he : s.heap.get? e = some oe) (hc : oe.cls = .ref C) (hkb : B.StaysIn s.heap) (hen : B.get? e = none)
    (hd : oe.data = .fields vs) (h2 : vs[2]? = some .none)
    (h : ∀ h', XAt B (env :: outer) e C (rawInt L) h' → s.heap.UpToSlots h' → Q () { s with heap := h' }) :
    wpAny M A (do let a ← frameOf env; let pl ← entryPlaceOf L hadNext; let b ← EntryCells.newEntry head a .none (rawInt L) .none pl; setField (.ref e) 1 b) Q E s := by
  have hsz : 1 < vs.size := by have := (Array.getElem?_eq_some_iff.mp h2).1; omega
  have notFrame : e ∉ (env :: outer).filterMap (·.frame) := fun hm => by
    obtain ⟨_, o, ho, hnf⟩ := hl.mem hm
    rw [he] at ho; cases ho; exact hnf vs hd
  refine wpAny_bind (wpAny_frameOf_fun hfr hl hf fun h₁ hs₁ => ?_)
  refine wpAny_bind (wpAny_entryPlaceOf fun pl hpl => ?_)
  unfold EntryCells.newEntry newFields
  refine wpAny_bind (wpAny_newObj_type ?_ (hpl.sizeOk5 _ _ _ _ _))
  have he₁ : h₁.get? e = some oe := (hs₁.2.1 e notFrame).trans he
  have kb₁ : B.StaysIn h₁ := fun b o hb => (hs₁.2.1 b fun hm => by rw [(hl.mem hm).1] at hb; cases hb).trans (hkb b o hb)
  generalize hT : ({ cls := .type "traceback", dict := none, data := .fields ([head, .ref L, .none, rawInt L, .none] ++ (if pl.isEmpty then List.replicate 6 Value.none else pl)).toArray } : Obj) = tb
  have he₂ := Heap.get?_push_of_some (h := h₁) tb he₁
  refine wpAny_setField he₂ hd hsz (h _ ?_ ?_)
  · have hTe : h₁.objs.size ≠ e := Nat.ne_of_gt (Heap.lt_size he₁)
    have hd₃ := Obj.data_mapFields hd (·.setIfInBounds 1 (Value.ref h₁.objs.size))
    have keep : ∀ b o, b ≠ e → h₁.get? b = some o → ((h₁.push tb).update e (Obj.mapFields (·.setIfInBounds 1 (Value.ref h₁.objs.size)))).get? b = some o := fun b o hbe hb => by
      rw [Heap.get?_update_other _ _ (Ne.symm hbe)]
      exact Heap.get?_push_of_some _ hb
    refine ⟨fun b o hb => keep b o (fun q => by rw [q, hen] at hb; cases hb) (kb₁ b o hb), hen, hl.of_keeps fun b o hb hnf => ?_, ?_⟩
    · obtain ⟨sl, hs⟩ := hs₁.2.2 b o hb
      exact ⟨_, keep b _ (fun q => by rw [q, he] at hb; cases hb; exact hnf vs hd) hs, rfl⟩
    · refine ⟨_, _, h₁.objs.size, tb, _, Heap.get?_update_self _ he₂ (Obj.isFreed_of_fields hd₃), (Obj.cls_mapFields _ _).trans hc, hd₃, by simp [hsz], by rw [Array.getElem?_setIfInBounds_ne (by decide)]; exact h2, kb₁.fresh, hTe, ?_, by rw [← hT], ?_⟩
      · exact (Heap.get?_update_other _ _ (Ne.symm hTe)).trans (Heap.get?_push_size h₁ (by rw [← hT]; rfl))
      · first | (simp; done) | (rcases hpl with rfl | ⟨_, _, _, _, _, _, _, rfl⟩ <;> simp)
  · intro b o hb hnf
    obtain ⟨sl, hs⟩ := hs₁.2.2 b o hb
    refine ⟨sl, ?_⟩
    rw [Heap.get?_update_other _ _ (fun q : e = b => by rw [← q, he] at hb; cases hb; exact hnf vs hd)]
    exact Heap.get?_push_of_some _ hs

theorem x_note1 {oe : Obj} {vs : Array Value}
    (hfr : A.frames = some (env :: outer)) (hl : s.heap.FunFrames B (env :: outer)) (hf : env.frame = some L) (he : s.heap.get? e = some oe) (hc : oe.cls = .ref C) (hkb : B.StaysIn s.heap) (hen : B.get? e = none)
    (hd : oe.data = .fields vs) (h1 : vs[1]? = some .none) (h2 : vs[2]? = some .none)
    (h : ∀ h', XAt B (env :: outer) e C (rawInt L) h' → s.heap.UpToSlots h' → Q () { s with heap := h' }) : wpAny M A (noteFrame (.ref e) env) Q E s := by
  unfold noteFrame
  simp only [hf]
  refine wpAny_bind (wpAny_field he hd h1 ?_)
  rw [if_neg (by decide)]
  exact x_entry hfr hl hf he hc hkb hen hd h2 h

theorem x_noteOn (hfr : A.frames = some (env :: outer)) (hf : env.frame = some L) (x : XAt B (env :: outer) e C .none s.heap)
    (h : ∀ h', XAt B (env :: outer) e C (rawInt L) h' → s.heap.UpToSlots h' → Q () { s with heap := h' }) : wpAny M A (noteFrame (.ref e) env) Q E s := by
  obtain ⟨hkb, hen, hl, oe, vs, T, oT, ts, he, hc, hd, h1, h2, hnT, hTe, hT, hdT, h3⟩ := x
  unfold noteFrame
  simp only [hf]
  refine wpAny_bind (wpAny_field he hd h1 ?_)
  rw [if_pos (show (Value.ref T != Value.none) = true from by simp)]
  refine wpAny_bind (wpAny_field hT hdT h3 ?_)
  rw [if_neg (show ¬ ((Value.none == rawInt L) = true) from by simp [rawInt])]
  refine wpAny_bind (wpAny_setField hT hdT (Array.getElem?_eq_some_iff.mp h3).1 ?_)
  have other : ∀ b, b ≠ T → (s.heap.update T (Obj.mapFields (·.setIfInBounds 3 Value.none))).get? b = s.heap.get? b := fun b hb => Heap.get?_update_other _ _ (Ne.symm hb)
  have rec_ : ∀ b o, s.heap.get? b = some o → (∀ vs, o.data ≠ .fields vs) → b ≠ T := fun b o hb hnf q => by
    rw [q, hT] at hb; cases hb; exact hnf ts hdT
  refine x_entry hfr (hl.of_keeps fun b o hb hnf => ⟨o, (other b (rec_ b o hb hnf)).trans hb, rfl⟩) hf ((other e (Ne.symm hTe)).trans he) hc
    (fun b o hb => (other b fun q => by rw [q, hnT] at hb; cases hb).trans (hkb b o hb)) hen hd h2 fun h' y u => h h' y fun b o hb hnf => u b o ((other b (rec_ b o hb hnf)).trans hb) hnf

theorem x_land {fl : Value} (x : XAt B l e C fl s.heap) (h : ∀ h', XAt B l e C .none h' → s.heap.UpToSlots h' → Q () { s with heap := h' }) : wpAny M A (setFlight (.ref e) none) Q E s := by
  obtain ⟨hkb, hen, hl, oe, vs, T, oT, ts, he, hc, hd, h1, h2, hnT, hTe, hT, hdT, h3⟩ := x
  have hsz3 : 3 < ts.size := (Array.getElem?_eq_some_iff.mp h3).1
  have other : ∀ b, b ≠ T → (s.heap.update T (Obj.mapFields (·.setIfInBounds 3 ((none : Option Addr).elim Value.none fun f => rawInt f)))).get? b = s.heap.get? b := fun b hb => Heap.get?_update_other _ _ (Ne.symm hb)
  have rec_ : ∀ b o, s.heap.get? b = some o → (∀ vs, o.data ≠ .fields vs) → b ≠ T := fun b o hb hnf q => by
    rw [q, hT] at hb; cases hb; exact hnf ts hdT
  unfold setFlight
  refine wpAny_bind (wpAny_field he hd h1 ?_)
  rw [if_pos (show (Value.ref T != Value.none) = true from by simp)]
  refine wpAny_setField hT hdT hsz3 (h _ ⟨fun b o hb => (other b fun q => by rw [q, hnT] at hb; cases hb).trans (hkb b o hb), hen, hl.of_keeps fun b o hb hnf => ⟨o, (other b (rec_ b o hb hnf)).trans hb, rfl⟩, ?_⟩ fun b o hb hnf => ⟨o.slots, (other b (rec_ b o hb hnf)).trans hb⟩)
  exact ⟨oe, vs, T, _, _, (other e (Ne.symm hTe)).trans he, hc, hd, h1, h2, hnT, hTe, Heap.get?_update_self _ hT (Obj.isFreed_of_fields (Obj.data_mapFields hdT _)), Obj.data_mapFields hdT _, by simp [hsz3]⟩

theorem XAt.pop {fl : Value} {h : Heap} (x : XAt B (env :: outer) e C fl h) : XAt B outer e C fl h := by
  obtain ⟨a, b, ⟨_, _, c⟩, d⟩ := x
  exact ⟨a, b, c, d⟩
end
end
section
/-- what is asked of an exception class of the text's own -/
structure XC (M : Model) (h : Heap) (C : Addr) : Prop where
  obj : ∃ oc od cd sl, h.get? C = some ⟨oc, od, .cls cd, sl⟩ ∧ cd.abstract = false ∧ cd.hasDel = false ∧ cd.mro.isEmpty = false ∧ cd.hasDict = true ∧ oc = .type "type"
  made : Looks M h (Bind.madeBy (.ref C)) (some "Exception.__new__")
  base : Looks M h (Bind.staticBase (.ref C)) (.ref C)
  self : Looks M h (isSubtype (.ref C) (.ref C)) true
  top : Looks M h (isSubtype (.ref C) (.type "Exception")) true
  topB : Looks M h (isSubtype (.ref C) (.type "BaseException")) true
  topO : Looks M h (isSubtype (.ref C) (.type "object")) true
  noA : Looks M h (isSubtype (.ref C) (.type "AttributeError")) false
  noN : Looks M h (isSubtype (.ref C) (.type "NameError")) false
  noT : Looks M h (isInstance (.ref C) (.type "tuple")) false
  excCls : Looks M h (isExcClass (.ref C)) true
  call : Looks M h (specialOf (.ref C) "__call__") (some (.builtin "type.__call__"))
  typ : Looks M h (isInstance (.ref C) (.type "type")) true
  init : Looks M h (typeLookup (.ref C) "__init__") (some (.ref 35))
  setA : Looks M h (typeLookup (.ref C) "__setattr__") (some (.builtin "object.__setattr__"))
  msg : Looks M h (typeLookup (.ref C) (Str.ofString "message")) none
  mro : Looks M h (mroOf (.ref C)) [.ref C, .ref 38, .type "Exception", .type "BaseException", .type "object"]
theorem xc51 {w : World} {h : Heap} (X : (hd.heap_39 w.params).In h) : XC (model Challenge.rw_nz0252_01.row.prog w) h 51 where
  obj := by
    refine ⟨_, _, _, _, X 51 _ rfl, ?_, ?_, ?_, ?_, ?_⟩ <;> rfl
  made := Looks.of_peek X (by kernel_rfl)
  base := Looks.of_peek X (by kernel_rfl)
  self := Looks.of_peek X (by kernel_rfl)
  top := Looks.of_peek X (by kernel_rfl)
  topB := Looks.of_peek X (by kernel_rfl)
  topO := Looks.of_peek X (by kernel_rfl)
  noA := Looks.of_peek X (by kernel_rfl)
  noN := Looks.of_peek X (by kernel_rfl)
  noT := Looks.of_peek X (by kernel_rfl)
  excCls := Looks.of_peek X (by kernel_rfl)
  call := looks_specialIn X (by kernel_rfl)
  typ := looks_instIn X (by kernel_rfl)
  init := looks_findIn X (by kernel_rfl)
  setA := looks_findIn X (by kernel_rfl)
  msg := looks_findIn X (by kernel_rfl)
  mro := Looks.of_peek X (by kernel_rfl)
theorem xc63 {w : World} {h : Heap} (X : (hd.heap_39 w.params).In h) : XC (model Challenge.rw_nz0252_01.row.prog w) h 63 where
  obj := by
    refine ⟨_, _, _, _, X 63 _ rfl, ?_, ?_, ?_, ?_, ?_⟩ <;> rfl
  made := Looks.of_peek X (by kernel_rfl)
  base := Looks.of_peek X (by kernel_rfl)
  self := Looks.of_peek X (by kernel_rfl)
  top := Looks.of_peek X (by kernel_rfl)
  topB := Looks.of_peek X (by kernel_rfl)
  topO := Looks.of_peek X (by kernel_rfl)
  noA := Looks.of_peek X (by kernel_rfl)
  noN := Looks.of_peek X (by kernel_rfl)
  noT := Looks.of_peek X (by kernel_rfl)
  excCls := Looks.of_peek X (by kernel_rfl)
  call := looks_specialIn X (by kernel_rfl)
  typ := looks_instIn X (by kernel_rfl)
  init := looks_findIn X (by kernel_rfl)
  setA := looks_findIn X (by kernel_rfl)
  msg := looks_findIn X (by kernel_rfl)
  mro := Looks.of_peek X (by kernel_rfl)

section
variable {w : World} {A : Around} {C : Addr} {h : Heap} {g : Array GenState} {d : Drawn} {t : Nat} {os : OsState} {Q : Value → Shared → Prop} {E : Value → Shared → Prop}
abbrev excObj (C tup : Addr) (dct : Option Addr) : Obj := { cls := .ref C, dict := dct, data := .fields #[.ref tup, .none, .none, .none, .bool false, .none] }
theorem x_new {prog : Program} {R : Result → Shared → Prop} (Y : XC (model prog w) h C) {rest : List Value} (hrest : rest.length ≤ sizeLine)
    (hq : R (.ok (.ret (.ref (h.objs.size + 1)))) ⟨(h.push { cls := .type "tuple", data := .seq rest.toArray }).push (excObj C h.objs.size none), g, d, t, os⟩) :
    codeAny (model prog w) A (.builtin "Exception.__new__" ⟨.ref C :: rest, []⟩) R ⟨h, g, d, t, os⟩ := by
  have F := PySem.F.excBase_Exception
  obtain ⟨⟨oc, od, cd, sl, hC, e1, e2, e4, e5⟩, made, base, self, top, topB, topO, noA, noN, noT, excCls, call, typ, init, setA, msg, mro⟩ := Y
  refine codeAny_builtinAt F.entry ?_
  unfold Builtin.«BaseException.__new__»
  refine PySem.wpAt_bind ?_
  show PySem.wpAt _ _ _ (stack >>= _) _ _ _
  refine PySem.wpAt_bind (PySem.wpAt_stack fun p below => PySem.wpAt_of_wpAny ?_)
  dsimp only
  rw [if_pos F.ends]
  refine wpAny_pure (PySem.wpAt_of_wpAny ?_)
  rw [F.owner]
  have mh : Looks (model prog w) h (Bind.madeHere "BaseException.__new__" (.ref C)) () := base.andThen (made.andThen (Looks.of_pure (by simp only [Option.map_some, show Manifest.canonical "Exception.__new__" = Manifest.canonical "BaseException.__new__" from F.canon, bne_self_eq_false, Bool.false_eq_true, if_false])))
  repeat (first | simp only [Bool.not_true, Bool.false_eq_true, if_false] | with_reducible refine wpAny_loadPart_at hC ?_ | lk)
  rw [if_neg (by rw [List.size_toArray]; omega)]
  have hC₁ := Heap.get?_push_of_some { cls := .type "tuple", data := .seq rest.toArray } hC
  have hC₂ := Heap.get?_push_of_some (excObj C h.objs.size none) hC₁
  unfold newObjAsIs
  repeat (first | simp only [e2, Bool.false_eq_true, if_false] | with_reducible refine wpAny_loadPart_at hC₂ ?_ | with_reducible refine wpAny_load hC₂ ?_ | wp_step)
  show R _ _
  rw [Heap.size_push]
  exact hq
theorem x_call {prog : Program} (Y : XC (model prog w) h C) {rest : List Value} (hrest : rest.length ≤ sizeLine) (X : (hd.heap_39 w.params).In h)
    (hq : wpAny (model prog w) (A.under (.builtin "type.__call__" ⟨.ref C :: rest, []⟩)) (PySem.call (.ref 35) (.ref (h.objs.size + 1) :: rest)) (fun r s' => r = .none ∧ Q (.ref (h.objs.size + 1)) s') E
      ⟨(h.push { cls := .type "tuple", data := .seq rest.toArray }).push (excObj C h.objs.size none), g, d, t, os⟩) :
    wpAny (model prog w) A (PySem.call (.ref C) rest) Q E ⟨h, g, d, t, os⟩ := by
  have Y' := Y
  obtain ⟨⟨oc, od, cd, sl, hC, e1, e2, e4, e5⟩, made, base, self, top, topB, topO, noA, noN, noT, excCls, call, typ, init, setA, msg, mro⟩ := Y
  refine wpAny_call (codeAny_of_tree ?_)
  show wpAny _ _ (callAny (.ref C) _) _ _ _
  refine nd_load hC ?_
  show wpAny _ _ (callAny.viaDunder (.ref C) _) _ _ _
  unfold callAny.viaDunder
  refine wpAny_bind (call.at ?_)
  dsimp only
  rw [tc_bind]
  refine wpAny_bind (wpAny_pure (wpAny_bind (wpAny_pure ?_)))
  refine wpAny_pure (a := Fin.again (.call (.builtin "type.__call__") ⟨.ref C :: rest, []⟩)) (And.intro rfl ?_)
  refine codeAny_call_builtin_at (Code.quiet_builtin _ (by decide +kernel)) entry_typeCall (check_slot tc_kind tc_split typ (tc_args _ _ _) ?_)
  unfold Builtin.«type.__call__»
  repeat (first | with_reducible refine wpAny_call ?_ | with_reducible refine wpAny_loadPart_at hC ?_ | lk)
  have F := PySem.F.excBase_Exception
  refine codeAny_call_builtin_code (Code.quiet_builtin _ F.quiet) ?_
  simp only [checkBuiltinCall, F.newKind, F.newSplit, F.newRow]
  have mh : Looks (model prog w) h (Bind.madeHere "Exception.__new__" (.ref C)) () := base.andThen (made.andThen (Looks.of_pure (by simp only [Option.map_some, bne_self_eq_false, Bool.false_eq_true, if_false])))
  repeat (first | simp only [bne_self_eq_false, Bool.false_eq_true, if_false, Bool.not_true] | lk)
  refine x_new Y' hrest ?_
  dsimp only
  have k : ∀ b o, h.get? b = some o → ((h.push { cls := .type "tuple", data := .seq rest.toArray }).push (excObj C h.objs.size none)).get? b = some o := fun b o e => Heap.get?_push_of_some _ (Heap.get?_push_of_some _ e)
  have hget : ((h.push { cls := .type "tuple", data := .seq rest.toArray }).push (excObj C h.objs.size none)).get? (h.objs.size + 1) = some (excObj C h.objs.size none) := by heap_get
  generalize (h.push { cls := .type "tuple", data := .seq rest.toArray }).push (excObj C h.objs.size none) = h2 at hq k hget ⊢
  have t1 : Looks (model prog w) h2 (typeOf (.ref (h.objs.size + 1))) (.ref C) := (Looks.ld hget).andThen .now
  have s1 := self.keeps k
  have i1 := init.keeps k
  have b1 : Looks (model prog w) h2 (bindSpecial (.ref 35) (.ref (h.objs.size + 1))) (.ref 35, [.ref (h.objs.size + 1)]) := (bind_fn X _ (by kernel_rfl)).keeps k
  unfold isInstance callSpecial? specialOf
  repeat (first | (refine wpAny_mono hq (fun r s' hr => ?_) (fun _ _ x => x)) | simp only [Bool.not_true, Bool.false_eq_true, if_false] | lk)
  obtain ⟨rfl, hQ⟩ := hr
  rw [if_neg (by decide)]
  exact wpAny_pure hQ
end
end
section
section
variable {w : World} {A A₀ : Around} {base h₀ : Heap} {outer : List Env} {env : Env} {L : Addr} {m : Str → Option Value} {s : Shared} {news : List (Addr × Obj)} {mg mb : Str → Option Value} {mean : ExcName → Option Value}
  {Q E : Value → Shared → Prop}
theorem xcAt {C : Addr} (hC : C = 51 ∨ C = 63) {h : Heap} (X : (hd.heap_39 w.params).In h) : XC (model Challenge.rw_nz0252_01.row.prog w) h C := by
  rcases hC with rfl | rfl
  · exact xc51 X
  · exact xc63 X
theorem x_refuse (e : Addr) : refuseLoop (.ref e) "__setattr__" [.type "Exception", .type "BaseException", .type "object"] = pure () := by kernel_rfl
theorem x_set {e tup C : Addr} {v : Value} (hC : C = 51 ∨ C = 63) (X : (hd.heap_39 w.params).In s.heap) (F : Fr h₀ L s.heap m) (N : News h₀ L s.heap ((e, excObj C tup none) :: news)) (hl : ∀ p ∈ news, p.1 ≠ e) {Q : Unit → Shared → Prop}
    (hq : ∀ d h' tk', Fr h₀ L h' m → News h₀ L h' ((e, excObj C tup (some d)) :: news) → Q () { s with heap := h', toks := tk' }) :
    wpAny (model Challenge.rw_nz0252_01.row.prog w) A (setAttr (.ref e) (Str.ofString "message") v) Q E s := by
  obtain ⟨hp, g, d, tk, os⟩ := s
  dsimp only at X F N
  have Y := xcAt hC X
  have he := (N _ (List.mem_cons_self ..)).1
  have I : PySem.W.InstAt hp e (excObj C tup none) C none := ⟨he, rfl, rfl, trivial⟩
  refine set_plain X I (by rcases hC with rfl | rfl <;> kernel_rfl) ?_
  have SF := PySem.F.store_object
  have sub : Looks (model Challenge.rw_nz0252_01.row.prog w) hp (isInstance (.ref e) (.type "object")) true := I.type.andThen Y.topO
  refine codeAny_call_builtin SF.slot.plain SF.entry (@check_slot (model Challenge.rw_nz0252_01.row.prog w) _ _ _ "object.__setattr__" "object" "__setattr__" (.ref e) [.str (Str.ofString "message") tk, v] [] _ SF.kind SF.split sub (SF.args (.ref e) _ v) ?_)
  rw [osa_eq, refuse_eq]
  refine wpAny_bind (wpAny_bind (I.type.at (wpAny_bind (Y.mro.at ?_))))
  rw [refuseLoop_ref, refuseLoop_ref, x_refuse]
  refine wpAny_pure (wpAny_bind (I.type.at (wpAny_bind (Y.msg.at (wpAny_bind ?_)))))
  obtain ⟨⟨oc, od, cd, sl, hCo, e1, e2, e4, e5, -⟩, -⟩ := Y
  refine wpAny_pure ?_
  dsimp only
  unfold Builtin.ObjectAttr.storeInOwnDict ownStreamTells
  refine wpAny_bind (wpAny_pure ?_)
  rw [if_neg (show ¬ ((Value.ref C == Value.type "module") = true) from Bool.false_ne_true)]
  refine wpAny_bind ?_
  unfold Builtin.ObjectAttr.ownDictForStores instanceDict classData
  refine wpAny_bind (wpAny_loadPart' he (wpAny_bind (wpAny_bind (wpAny_load' hCo (wpAny_pure ?_)))))
  rw [if_neg (show ¬ ((!cd.hasDict) = true) from by rw [e5]; exact Bool.false_ne_true)]
  have F1 : Fr h₀ L (hp.push emptyDict) m := F.push _
  have N1 : News h₀ L (hp.push emptyDict) ((hp.objs.size, emptyDict) :: (e, excObj C tup none) :: news) := N.push F _
  have he1 := (N1 _ (List.mem_cons_of_mem _ (List.mem_cons_self ..))).1
  have ne1 : hp.objs.size ≠ e := Ne.symm (Nat.ne_of_lt (Heap.lt_size he))
  have U := news_upd (d := e) (o' := excObj C tup (some hp.objs.size)) (pre := [(hp.objs.size, emptyDict)]) (post := news) (f := fun o => { o with dict := some hp.objs.size }) F1 N1 (fun p hp' => by rw [List.mem_singleton.mp hp']; exact ne1) hl rfl rfl
  show wpAny _ _ (alloc emptyDict >>= fun d => update e (fun o => { o with dict := some d }) >>= fun _ => dictMade (.ref C) e d) _ _ _
  refine wpAny_bind (wpAny_alloc (wpAny_bind (wpAny_update' he1 (wpAny_pure ?_))))
  dsimp only
  unfold Builtin.ObjectAttr.storeInDict
  refine wpAny_bind (wpAny_pure (wpAny_bind ?_))
  have hD := (U.2 _ (List.mem_cons_self ..)).1
  unfold nsSet
  refine wpAny_bind (wpAny_bind (wpAny_askSetting (wpAny_pure (wpAny_bind (wpAny_mkText (wpAny_bind (wpAny_loadPart hD ?_)))))))
  dsimp only
  rw [if_neg (show ¬ (aRefKeyMayBeTheName (Str.ofString "message") #[] = true) from by decide)]
  have U2 := fun (hsh : Int) (key : Value) => news_upd (d := hp.objs.size) (o' := dictOf (putL (Str.ofString "message") hsh key v []) (putN (Str.ofString "message") [] 0)) (pre := []) (post := (e, excObj C tup (some hp.objs.size)) :: news) (f := Obj.putName (Str.ofString "message") hsh key v) U.1 U.2 (fun _ h => nomatch h)
    (fun p hp' => by
      rcases List.mem_cons.mp hp' with rfl | hp'
      · exact Ne.symm ne1
      · have := Heap.lt_size (N p (List.mem_cons_of_mem _ hp')).1
        exact Nat.ne_of_lt this) (putName_dict _ hsh key v [] 0) rfl
  refine wpAny_updatePart hD ?_
  have D' := fun hsh key => ((U2 hsh key).2 _ (List.mem_cons_self ..)).1
  refine wpAny_bind (wpAny_lookBehind (D' _ _) ?_ (wpAny_pure ?_))
  · exact pastItsLine_dict (by rw [List.size_toArray, sizeLine_eq]; show 1 ≤ _; omega)
  · exact hq _ _ _ (U2 _ _).1 (fun p hp' => (U2 _ _).2 p (List.mem_cons_of_mem _ hp'))
end
end
section
section
variable {w : World} {A A₀ : Around} {base h₀ : Heap} {outer : List Env} {env : Env} {L : Addr} {m : Str → Option Value} {s : Shared} {news : List (Addr × Obj)} {mg mb : Str → Option Value} {mean : ExcName → Option Value}
  {Q E : Value → Shared → Prop}
theorem x_init {e tup C : Addr} {v : Value} (Y : XC (model Challenge.rw_nz0252_01.row.prog w) s.heap C) (F : Fr h₀ L s.heap m) (N : News h₀ L s.heap ((e, excObj C tup none) :: news)) (hl : ∀ p ∈ news, p.1 ≠ e)
    (hq : ∀ t' h', Fr h₀ L h' m → News h₀ L h' ((e, excObj C t' none) :: news) → Q .none { s with heap := h' }) :
    wpAny (model Challenge.rw_nz0252_01.row.prog w) A (call (.builtin "Exception.__init__") [.ref e, v]) Q E s := by
  have FX := PySem.F.excBase_Exception
  have he := (N _ (List.mem_cons_self ..)).1
  have t0 : Looks (model Challenge.rw_nz0252_01.row.prog w) s.heap (isInstance (.ref e) (.type "Exception")) true := by
    unfold isInstance
    exact ((Looks.ld he).andThen .now).andThen Y.top
  refine wpAny_call (codeAny_call_builtin FX.init.plain FX.initEntry ?_ )
  have hshort := FX.noStar
  simp only [checkBuiltinCall, FX.initKind, FX.initSplit, FX.initRow]
  obtain ⟨⟨oc, od, cd, sl, hC, e1, e2, e4, e5⟩, made, base, self, top, topB, topO, noA, noN, noT, excCls, call, typ, init, setA, msg, mro⟩ := Y
  have he1 := Heap.get?_push_of_some (h := s.heap) { cls := .type "tuple", data := .seq #[v] } he
  repeat (first | simp only [Bool.not_true, Bool.false_eq_true, if_false] | with_reducible refine nd_load hC ?_ | with_reducible refine nd_load he1 ?_ | lk)
  refine wpAny_update he1 (wpAny_letGo (wpAny_pure ?_))
  show Q _ _
  have F1 : Fr h₀ L (s.heap.push { cls := .type "tuple", data := .seq #[v] }) m := F.push _
  have N1 : News h₀ L (s.heap.push { cls := .type "tuple", data := .seq #[v] }) ((s.heap.objs.size, { cls := .type "tuple", data := .seq #[v] }) :: (e, excObj C tup none) :: news) := N.push F _
  have U := news_upd (d := e) (o' := excObj C s.heap.objs.size none) (pre := [(s.heap.objs.size, { cls := .type "tuple", data := .seq #[v] })]) (post := news) (f := Obj.mapFields (·.setIfInBounds 0 (.ref s.heap.objs.size))) F1 N1 (fun p hp => by rw [List.mem_singleton.mp hp]; exact Ne.symm (Nat.ne_of_lt (Heap.lt_size he))) hl rfl rfl
  exact hq _ _ U.1 (fun p hp => U.2 p (List.mem_cons_of_mem _ hp))
local macro_rules | `(tactic| walk_at "getMethod type:Exception") => `(tactic| (k_here; refine' method_type ?F ?X ?m (by decide +kernel) ?e ?h ?_; (case F => k_asm); (case X => k_asm); (case m => kernel_rfl); (case e => k_dflt k_is); (case h => k_handed)))
local macro_rules | `(tactic| walk_at "call builtin:Exception.__init__") => `(tactic| (k_here; k_dflt (refine x_init (xcAt (by assumption) (Frag.In.keeps (by k_asm) (Fr.keep (by k_asm)))) (by k_asm) (by k_asm) (by assumption) ?_); intro t' h' F' N'))
local macro_rules | `(tactic| walk_at "setAttr ref") => `(tactic| (k_here; k_dflt (refine x_set (by assumption) (Frag.In.keeps (by k_asm) (Fr.keep (by k_asm))) (by k_asm) (by k_asm) (by assumption) ?_); intro d' h' tk' F' N'))
theorem c_init {e tup C : Addr} {msg : Str} {tm : Tok}
    (F : Fr h₀ L s.heap m) (B : Below A₀ base outer h₀) (X : (hd.heap_39 w.params).In h₀) (T : Top hd.view_39 (looseW hd.view_39 []) mean mg mb h₀)
    (hA : A.frames = some (env :: outer)) (hf : env.frame = some L) (hke : env.scope.kind = .function) (hh : A.handled = none) (hdp : A.depth ≤ 600) (hun : A.units ≤ 2000)
    (N : News h₀ L s.heap ((e, excObj C tup none) :: news)) (hl : ∀ p ∈ news, p.1 ≠ e) (hC : C = 51 ∨ C = 63)
    (hret : ∀ tup' d h' tk', Fr h₀ L h' m → News h₀ L h' ((e, excObj C tup' (some d)) :: news) → Q .none { s with heap := h', toks := tk' }) :
    wpAny (model Challenge.rw_nz0252_01.row.prog w) A (call (.ref 35) [.ref e, .str msg tm]) Q E s := by

  revert X; k_fill; intro X
  refine up hdp hun hh hA ?_
  refine wpAny_call ?_
  k_dflt (refine' code_def (binds := [(Str.ofString "self", .ref e), (Str.ofString "message", .str msg tm)]) ?k1 ?k2 ?k3 ?k4 ?k5 ?kA ?kF ?kK ?k6 ?k7 ?k8 ?k9 ?kB ?_ ?c2 ?c3 ?c4 ?c5; (case kA => exact rfl); (case kF => assumption); (case kK => assumption); (case k1 => k_asm); (case k2 => k_asm); (case k3 => k_asm); (case k4 => k_asm); (case k5 => k_asm); (case k6 => k_is); (case k7 => k_is); (case k8 => k_room); (case k9 => exact BindsTo.of_eq rfl); (case c5 => decide); (case kB => exact locs rfl); (case c2 => exact rfl); (case c3 => exact rfl); (case c4 => exact rfl); k_whole; intro g' L' h' FG' F' N' B' X' T'; (try dsimp only); (try k_lift B'); (try k_fold))
  k_steps
  exact hret _ _ _ _ (by k_asm) (by k_asm)
end
end
section
section
variable {w : World} {A A₀ : Around} {base h₀ : Heap} {outer : List Env} {env : Env} {L : Addr} {m : Str → Option Value} {s : Shared} {news : List (Addr × Obj)} {mg mb : Str → Option Value} {mean : ExcName → Option Value}
  {Q E : Value → Shared → Prop}
theorem x_raiseStmt {xt : Sem Value} {Q : Flow → Shared → Prop} (hh : A.handled = none)
    (h : wpAny (model Challenge.rw_nz0252_01.row.prog w) A xt (fun v s₁ => ∃ e C tup d, v = .ref e ∧ (C = 51 ∨ C = 63) ∧ (hd.heap_39 w.params).In s₁.heap ∧ s₁.heap.get? e = some (excObj C tup (some d)) ∧ E (.ref e) s₁) E s) :
    wpAny (model Challenge.rw_nz0252_01.row.prog w) A (raiseStmt env (some xt) none) Q E s := by
  unfold raiseStmt
  refine wpAny_bind (wpAny_mono h (fun v s₁ h₁ => ?_) fun _ _ x => x)
  obtain ⟨e, C, tup, d, rfl, hC, X, he, hE⟩ := h₁
  obtain ⟨hp, g, dr, t, os⟩ := s₁
  dsimp only at X he
  obtain ⟨⟨oc, od, cd, sl, hCo, e1, e2, e4, e5, rfl⟩, made, base, self, top, topB, topO, noA, noN, noT, excCls, call, typ, init, setA, msg, mro⟩ := xcAt hC X
  have t0 : Looks (model Challenge.rw_nz0252_01.row.prog w) hp (typeOf (.ref e)) (.ref C) := (Looks.ld he).andThen .now
  repeat (first | simp only [Bool.false_eq_true, if_false, beq_self_eq_true, if_true] | with_reducible refine wpAny_loadPart_at he ?_ | with_reducible refine nd_load he ?_ | (with_reducible show wpAny _ _ (raiseNew _) _ _ _; exact wpAny_raiseNew_none hh hE) | lk)
theorem x_make {C : Addr} {msg : Str} {tm : Tok}
    (F : Fr h₀ L s.heap m) (B : Below A₀ base outer h₀) (X : (hd.heap_39 w.params).In h₀) (T : Top hd.view_39 (looseW hd.view_39 []) mean mg mb h₀)
    (hA : A.frames = some (env :: outer)) (hf : env.frame = some L) (hke : env.scope.kind = .function) (hh : A.handled = none) (hdp : A.depth ≤ 590) (hun : A.units ≤ 1900)
    (N : News h₀ L s.heap news) (hC : C = 51 ∨ C = 63)
    (hret : ∀ e tup d h' tk', Fr h₀ L h' m → News h₀ L h' ((e, excObj C tup (some d)) :: news) → (∀ p ∈ news, p.1 ≠ e) → Q (.ref e) { s with heap := h', toks := tk' }) :
    wpAny (model Challenge.rw_nz0252_01.row.prog w) A (call (.ref C) [.str msg tm]) Q E s := by
  obtain ⟨hp, g, d, tk, os⟩ := s
  dsimp only at F N
  have X' : (hd.heap_39 w.params).In hp := X.keeps F.keep
  refine x_call (xcAt hC X') (by show 1 ≤ sizeLine; rw [sizeLine_eq]; omega) X' ?_
  have F1 : Fr h₀ L (hp.push { cls := .type "tuple", data := .seq [Value.str msg tm].toArray }) m := F.push _
  have N1 : News h₀ L (hp.push { cls := .type "tuple", data := .seq [Value.str msg tm].toArray }) ((hp.objs.size, _) :: news) := N.push F _
  have N2 := N1.push F1 (excObj C hp.objs.size none)
  rw [Heap.size_push] at N2
  refine c_init (news := news) (tup := hp.objs.size) (s := ⟨(hp.push { cls := .type "tuple", data := .seq [Value.str msg tm].toArray }).push (excObj C hp.objs.size none), g, d, tk, os⟩) (F1.push _) B X T (by exact hA) hf hke (by exact hh) ?_ ?_ (fun (p : Addr × Obj) hp' => ?_) (fun (p : Addr × Obj) hp' => ?_) hC ?_
  · show A.depth + Code.weight _ ≤ 600
    have : Code.weight (.builtin "type.__call__" ⟨.ref C :: [Value.str msg tm], []⟩) ≤ 10 := by exact Nat.le_of_ble_eq_true rfl
    omega
  · show A.units + Code.cUnits _ ≤ 2000
    have : Code.cUnits (.builtin "type.__call__" ⟨.ref C :: [Value.str msg tm], []⟩) ≤ 100 := by exact Nat.le_of_ble_eq_true rfl
    omega
  · rcases List.mem_cons.mp hp' with rfl | hp'
    · exact N2 _ (List.mem_cons_self ..)
    · exact N2 _ (List.mem_cons_of_mem _ (List.mem_cons_of_mem _ hp'))
  · have := Heap.lt_size (N p hp').1
    intro e
    rw [e] at this
    exact absurd this (Nat.not_lt.mpr (Nat.le_succ _))
  · intro tup' d' h' tk' F' N'
    exact ⟨rfl, hret _ _ _ _ _ F' N' (fun p hp' => Nat.ne_of_lt (Nat.lt_trans (Heap.lt_size (N p hp').1) (Nat.lt_succ_self _)))⟩
/-- an exception of the text's own is made; what comes of raising it is E -/
def XMade (w : World) (E : Value → Shared → Prop) (v : Value) (s₁ : Shared) : Prop := ∃ e C tup d, v = .ref e ∧ (C = 51 ∨ C = 63) ∧ (hd.heap_39 w.params).In s₁.heap ∧ s₁.heap.get? e = some (excObj C tup (some d)) ∧ E (.ref e) s₁
theorem XMade.intro {C e tup d : Addr} (hC : C = 51 ∨ C = 63) (X : (hd.heap_39 w.params).In h₀) (F : Fr h₀ L s.heap m) (N : News h₀ L s.heap ((e, excObj C tup (some d)) :: news)) (hE : E (.ref e) s) : XMade w E (.ref e) s :=
  ⟨e, C, tup, d, rfl, hC, X.keeps F.keep, (N _ (List.mem_cons_self ..)).1, hE⟩
theorem x_raise {f : Expr} {args : List Expr} {kws : List Keyword} {cpos pos : Pos} {Q : Flow → Shared → Prop} (hh : A.handled = none)
    (h : wpAny (model Challenge.rw_nz0252_01.row.prog w) A (eval (.Call f args kws cpos) env) (XMade w E) E s) :
    wpAny (model Challenge.rw_nz0252_01.row.prog w) A (exec (.Raise (some (.Call f args kws cpos)) none pos) env) Q E s := by
  rw [arm_exec_Raise]
  simp only [evalOpt, Option.map]
  exact wpAny_bind (wpAny_standAt (x_raiseStmt hh (wpAny_bind (wpAny_mono h (fun v s₁ h => wpAny_bind (wpAny_standAt (wpAny_pure h))) fun _ _ e => e))))
end
end
section
def XRaised (base G : Heap) (l : List Env) (e C : Addr) (news : List (Addr × Obj)) (h : Heap) : Prop :=
  ∃ B, base.StaysIn B ∧ (∀ b o, G.get? b = some o → b ∉ l.filterMap (·.frame) → B.get? b = some o) ∧ (∀ q ∈ news, B.get? q.1 = some q.2 ∧ G.get? q.1 = none ∧ base.get? q.1 = none) ∧ XAt B l e C .none h
section
variable {M : Model} {A : Around} {E : Value → Shared → Prop} {s' : Shared} {base g g₂ : Heap} {outer : List Env} {L a e C : Addr} {m : Str → Option Value} {env : Env} {Q : Unit → Shared → Prop} {news : List (Addr × Obj)}

theorem frame_mem {L b : Addr} {env : Env} {outer : List Env} (hf : env.frame = some L) (hm : b ∈ (env :: outer).filterMap (·.frame)) : b = L ∨ b ∈ outer.filterMap (·.frame) := by
  obtain ⟨v, he, hv⟩ := List.mem_filterMap.mp hm
  rcases List.mem_cons.mp he with rfl | he
  · exact .inl (Option.some.inj (hv.symm.trans hf))
  · exact .inr (List.mem_filterMap.mpr ⟨v, he, hv⟩)
theorem below_push {h : Heap} (K : Below A base outer g) (F : Fr g L h m) (hf : env.frame = some L) (hk : env.scope.kind = .function) : Below (A.deeper env) base (env :: outer) h := by
  have hnew : base.get? L = none := by
    cases hq : base.get? L with
    | none => rfl
    | some o => exact absurd (Nat.lt_of_lt_of_le (Heap.lt_size (K.stays L o hq)) F.above) (Nat.lt_irrefl _)
  exact ⟨Around.frames_deeper K.stack, fun b o e => F.keep b o (K.stays b o e), .cons (by rw [hk]; decide) hf F.ns hnew (K.frames.of_keeps fun b o e _ => ⟨o, F.keep b o e, rfl⟩)⟩
theorem leave_x1 {tup d : Addr} (K : Below A base outer g) (F : Fr g L s'.heap m) (N : News g L s'.heap ((e, excObj C tup (some d)) :: news)) (hne : ∀ p ∈ news, p.1 ≠ e) (hf : env.frame = some L) (hk : env.scope.kind = .function)
    (hQ : ∀ h', XRaised base g outer e C news h' → g.UpToSlots h' → Q () { s' with heap := h' }) :
    wpAny M (A.deeper env) (leaving env (.ref e)) Q E s' := by
  have K' := below_push K F hf hk
  have he := (N _ (List.mem_cons_self ..)).1
  have hin : ∀ v ∈ (env :: outer), ∀ b, v.frame = some b → b ∈ e :: (env :: outer).filterMap (·.frame) := fun v hv b hb => List.mem_cons_of_mem _ (List.mem_filterMap.mpr ⟨v, hv, hb⟩)
  have ge : g.get? e = none := (N _ (List.mem_cons_self ..)).2.2
  have be : base.get? e = none := fresh_of_stays K.stays ge
  have st : base.StaysIn (hideAll s'.heap (e :: (env :: outer).filterMap (·.frame))) := fun b o q => hideAll_get _ (K'.stays b o q) fun hm => by
    rcases List.mem_cons.mp hm with rfl | hm
    · rw [be] at q; cases q
    · rw [(K'.frames.mem hm).1] at q; cases q
  have sg : ∀ b o, g.get? b = some o → b ∉ outer.filterMap (·.frame) → (hideAll s'.heap (e :: (env :: outer).filterMap (·.frame))).get? b = some o := fun b o q nm => hideAll_get _ (F.keep b o q) fun hm => by
    rcases List.mem_cons.mp hm with rfl | hm
    · rw [ge] at q; cases q
    · rcases frame_mem hf hm with z | z
      · rw [z, kts_self F] at q; cases q
      · exact nm z
  have hl : ∀ q ∈ news, (hideAll s'.heap (e :: (env :: outer).filterMap (·.frame))).get? q.1 = some q.2 ∧ g.get? q.1 = none ∧ base.get? q.1 = none := fun q hq => by
    have Nq := N q (List.mem_cons_of_mem _ hq)
    refine ⟨hideAll_get _ Nq.1 fun hm => ?_, Nq.2.2, fresh_of_stays K.stays Nq.2.2⟩
    rcases List.mem_cons.mp hm with z | hm
    · exact hne q hq z
    · rcases frame_mem hf hm with z | z
      · exact Nq.2.1 z
      · obtain ⟨o, ho, _⟩ := (K.frames.mem z).2
        rw [Nq.2.2] at ho; cases ho
  unfold leaving
  refine wpAny_bind (x_note1 (B := hideAll s'.heap (e :: (env :: outer).filterMap (·.frame))) (C := C) K'.stack (funFrames_hide K'.frames hin) hf he rfl (fun b o q => of_hideAll _ q) (hideAll_none _ (List.mem_cons_self ..)) rfl rfl rfl fun h₁ x₁ u₁ => ?_)
  refine x_land x₁ fun h₂ x₂ u₂ => ?_
  exact hQ h₂ ⟨_, st, sg, hl, x₂.pop⟩ (((Heap.UpToSlots.of_keeps F.keep).trans u₁).trans u₂)
theorem leave_x2 (K : Below A base outer g) (F : Fr g L g₂ m) (R : XRaised base g₂ (env :: outer) e C news s'.heap) (hsm : g₂.UpToSlots s'.heap) (hf : env.frame = some L)
    (hQ : ∀ h', XRaised base g outer e C news h' → g.UpToSlots h' → Q () { s' with heap := h' }) :
    wpAny M (A.deeper env) (leaving env (.ref e)) Q E s' := by
  obtain ⟨B, hB, hBG, hl, x⟩ := R
  unfold leaving
  refine wpAny_bind (x_noteOn (Around.frames_deeper K.stack) hf x fun h₁ x₁ u₁ => ?_)
  refine x_land x₁ fun h₂ x₂ u₂ => ?_
  refine hQ h₂ ⟨B, hB, fun b o q nm => hBG b o (F.keep b o q) fun hm => ?_, fun q hq => ⟨(hl q hq).1, ?_, (hl q hq).2.2⟩, x₂.pop⟩ (((Heap.UpToSlots.of_keeps F.keep).trans hsm).trans (u₁.trans u₂))
  · rcases frame_mem hf hm with z | z
    · rw [z, kts_self F] at q; cases q
    · exact nm z
  · exact kts_none F.keep (hl q hq).2.1
end

section
variable {prog : Program} {w : World} {A₀ : Around} {E : Value → Shared → Prop} {s' : Shared} {base g G : Heap} {outer : List Env} {L e C : Addr} {m : Str → Option Value} {env : Env} {cd : Value}
  {b₀ : Stmt} {suite : List Stmt} {pos : Pos} {t : Expr} {rest : List ExceptHandler} {Q : Flow → Shared → Prop} {news : List (Addr × Obj)} {KF : Frag} {mean : ExcName → Option Value} {mg mb : Str → Option Value}

theorem ground_x (hf : env.frame = some L) (K : Below A₀ base outer g) (F : Fr g L G m) {B h₅ : Heap} (hBG : ∀ b o, G.get? b = some o → b ∉ (env :: outer).filterMap (·.frame) → B.get? b = some o) (hBh : B.StaysIn h₅) (hsm : G.UpToSlots h₅) :
    ∃ g', KtsTurn (outer.filterMap (·.frame)) g g' ∧ Fr g' L h₅ m ∧ Below A₀ base outer g' := by
  obtain ⟨T, S⟩ := kts_turn_at (h := h₅) (fs := outer.filterMap (·.frame)) (g := g)
    (fun b hb => let ⟨_, o, ho, _⟩ := K.frames.mem hb; ⟨o, ho⟩)
    (fun b o e nm => hBh b o (hBG b o (F.keep b o e) (fun hm => by
      rcases frame_mem hf hm with z | z
      · rw [z, kts_self F] at e; cases e
      · exact nm z)))
    (fun b o e hm => by
      obtain ⟨_, o', ho', hd⟩ := K.frames.mem hm
      rw [e] at ho'; cases ho'
      exact hsm b o (F.keep b o e) hd)
  refine ⟨_, T, ⟨hsm.ns F.ns, S, by rw [T.size]; exact F.above⟩, ⟨K.stack, fun b o e => T.other b o (K.stays b o e) (fun hm => by rw [(K.frames.mem hm).1] at e; cases e), K.frames.of_keeps fun b o e _ => ?_⟩⟩
  obtain ⟨sl, hs⟩ := T.up e
  exact ⟨_, hs, rfl⟩

/-- the exception is caught in the frame env by its own class's name -/
theorem catch_x (R : XRaised base G (env :: outer) e C news s'.heap) (hC : C = 51 ∨ C = 63) (F : Fr g L G m) (K : Below A₀ base outer g) (hsm : G.UpToSlots s'.heap) (XB : (hd.heap_39 w.params).In base) (TB : Top hd.view_39 (looseW hd.view_39 []) mean mg mb base)
    (hf : env.frame = some L)
    (ht : ∀ (s₁ : Shared) (g₁ : Heap) (Q₁ : Value → Shared → Prop), Fr g₁ L s₁.heap m → (hd.heap_39 w.params).In g₁ → Top hd.view_39 (looseW hd.view_39 []) mean mg mb g₁ → Q₁ (.ref C) s₁ → wpAny (model Challenge.rw_nz0252_01.row.prog w) ((A₀.deeper env).mark (some (.ref e))) (eval t env) Q₁ (fun _ _ => False) s₁)
    (k : ∀ h' g', KtsTurn (outer.filterMap (·.frame)) g g' → Fr g' L h' m → News g' L h' news → Below A₀ base outer g' → (hd.heap_39 w.params).In g' → Top hd.view_39 (looseW hd.view_39 []) mean mg mb g' →
      (g'.get? e = none ∧ ∃ oe vs, h'.get? e = some oe ∧ oe.data = .fields vs ∧ vs[2]? = some .none) → (∀ p ∈ news, p.1 ≠ e) →
      wpAny (model Challenge.rw_nz0252_01.row.prog w) ((A₀.deeper env).mark (some (.ref e))) (execs (b₀ :: suite) env) Q E { s' with heap := h' })
    (hE : PassesOwnAt (model Challenge.rw_nz0252_01.row.prog w) ((A₀.deeper env).mark (some (.ref e))) (A₀.deeper env) env E := by passes_own) :
    wpAny (model Challenge.rw_nz0252_01.row.prog w) (A₀.deeper env) (noteFrame (.ref e) env)
      (fun _ s₂ => wpAny (model Challenge.rw_nz0252_01.row.prog w) (A₀.deeper env) (setFlight (.ref e) none) (fun _ s₃ =>
        wpAny (model Challenge.rw_nz0252_01.row.prog w) (A₀.deeper env) (handleBy (.ref e) env (.ExceptHandler (some t) none (b₀ :: suite) pos :: rest)) Q E s₃) E s₂) E s' := by
  obtain ⟨B, hB, hBG, hl, x⟩ := R
  have hL : B.get? L = none := by
    obtain ⟨_, ⟨L', _, hf', hn', _⟩, _⟩ := x.frames
    rw [hf] at hf'
    obtain rfl : L = L' := Option.some.inj hf'
    exact hn'
  refine x_noteOn (Around.frames_deeper K.stack) hf x fun h₄ x₄ u₄ => ?_
  refine x_land x₄ fun h₅ x₅ u₅' => ?_
  have u₅ := u₄.trans u₅'
  obtain ⟨g₅, T₅, F₅, K₅⟩ := ground_x hf K F hBG x₅.stays (hsm.trans u₅)
  have X₅ : (hd.heap_39 w.params).In g₅ := XB.keeps K₅.stays
  have P₅ : Top hd.view_39 (looseW hd.view_39 []) mean mg mb g₅ := TB.keeps K₅.stays
  obtain ⟨oe₅, _, _, _, _, he₅, hc₅, _⟩ := x₅.traced
  have q : ktsIn (hd.heap_39 w.params) C "BaseException" = true := by rcases hC with rfl | rfl <;> kernel_rfl
  obtain ⟨nm, q', N, bs, bm, hdct, sn, sub, ab, col, dd, k0, k1, k2, k3, k5, newId, hCo, hbase, hbT⟩ := kts_cls X₅ q
  refine wpAny_handleBy_cons (codeAny_handlers_test (wpAny_mono (ht _ g₅ _ F₅ X₅ P₅ ?_) (fun _ _ h => h) fun _ _ h => h.elim)) (by intro q; cases q)
  refine wpAny_excMatches_sub_self (F₅.keep _ _ hCo) he₅ hc₅ hbase (codeAny_handlers_suite ?_)
  refine x_land x₅ fun h₆ x₆ u₆ => ?_
  obtain ⟨g₆, T₆, F₆, K₆⟩ := ground_x hf K F hBG x₆.stays ((hsm.trans u₅).trans u₆)
  obtain ⟨oe, vs, T, oT, ts, he, hc, hd, h1, h2, _⟩ := x₆.traced
  have ne : ∀ p ∈ news, p.1 ≠ e := fun p hp z => by have := (hl p hp).1; rw [z, x.new] at this; cases this
  have ge : g₆.get? e = none := by
    cases hq : g₆.get? e with
    | none => rfl
    | some o =>
      exfalso
      have hgo : ∃ o', g.get? e = some o' := by
        cases hq' : g.get? e with
        | none => rw [T₆.none_ _ hq'] at hq; cases hq
        | some o' => exact ⟨o', rfl⟩
      obtain ⟨o', ho'⟩ := hgo
      by_cases hm : e ∈ outer.filterMap (·.frame)
      · obtain ⟨_, o₂, ho₂, hnf⟩ := K.frames.mem hm
        obtain ⟨sl, hs⟩ := ((hsm.trans u₅).trans u₆) _ _ (F.keep _ _ ho₂) hnf
        rw [he] at hs; cases hs
        exact hnf _ hd
      · have := hBG e o' (F.keep _ _ ho') (fun hm' => by
          rcases frame_mem hf hm' with z | z
          · rw [z, kts_self F] at ho'; cases ho'
          · exact hm z)
        rw [x.new] at this; cases this
  have Nl : News g₆ L h₆ news := fun q hq => ⟨x₆.stays _ _ (hl q hq).1, (fun z => by have := (hl q hq).1; rw [z, hL] at this; cases this), T₆.none_ _ (kts_none F.keep (hl q hq).2.1)⟩
  exact wpAny_passesOwnAt hE (k h₆ g₆ T₆ F₆ Nl K₆ (XB.keeps K₆.stays) (TB.keeps K₆.stays) ⟨ge, oe, vs, he, hd, h2⟩ ne)
end
end
section
section
variable {prog : Program} {w : World} {A₀ A : Around} {s : Shared} {base h₀ : Heap} {L : Addr} {m : Str → Option Value} {env : Env} {news : List (Addr × Obj)} {K : Frag} {p : Program} {loose : List Str} {mean : ExcName → Option Value} {mg mb : Str → Option Value}
    {R : Result → Shared → Prop} {name qual : Str} {params : Arguments} {body : List Stmt} {scope : Scope} {dV kV doc pm cdv ct oc : Value} {an od : Option Addr} {osl : Array (Option Value)} {f : Addr} {args : Args} {binds : List (Str × Value)}
/-- a def with cells, in which an exception may be caught -/
theorem code_defSC0 (B : Below A₀ base [] h₀) (F : Fr h₀ L s.heap m) (X₀ : K.In h₀) (N : News h₀ L s.heap news) (T : Top p loose mean mg mb h₀) (hA : A.frames = some [env]) (hf : env.frame = some L) (hke : env.scope.kind = .function)
    (ho : K.lookup f = some ⟨oc, od, .func (fnOf name qual params body scope dV kV doc pm an cdv ct), osl⟩) (hcd : codeIn K cdv qual = true) (hroom : A.depth < recursionLimit)
    (hbind : BindsTo s (fnOf name qual params body scope dV kV doc pm an cdv ct) args binds) (hkind : (binds.all fun y => scope.names.lookup y.1 == some .local || scope.names.lookup y.1 == some .cell) = true)
    (hnd : ((cellsFrom 0 scope.names []).map (·.1)).Nodup)
    (h : ∀ g L' h₁ tk cells, Fr h₀ L g m → Fr g L' h₁ (bindL (envOfC qual scope L' f cdv).kindOf binds fun _ => none) → News g L' h₁ (cells ++ news) →
      CellsAre (bindC (envOfC qual scope L' f cdv).kindOf binds fun _ => none) (cellsFrom (L' + 1) scope.names []) cells → Below A base [env] g → K.In g → Top p loose mean mg mb g → (∀ p ∈ news, p.1 < L') →
      wpAny (model prog w) (A.deeper (envOfC qual scope L' f cdv)) (execs body (envOfC qual scope L' f cdv))
        (fun fl s' => LeaveS0 ([env].filterMap (·.frame)) h₀ L m g R (match fl with | .ret v => v | _ => .none) s')
        (fun e s' => wpAny (model prog w) (A.deeper (envOfC qual scope L' f cdv)) (leaving (envOfC qual scope L' f cdv) e) (fun _ s'' => R (.error e) s'') (fun e' s'' => R (.error e') s'') s')
        { s with heap := h₁, toks := tk })
    (hco : scope.isCoroutine = false) (hgen : scope.isGenerator = false) (hk : scope.kind = .function) : codeAny (model prog w) A (.call (.ref f) args) R s := by
  have X := X₀.keeps F.keep
  obtain ⟨FG, BG, st, -⟩ := groundX (R := R) B F N hA hf hke
  have hlim := T.nolimit
  refine codeAny_call_function hroom (X _ _ ho) rfl hco hgen rfl (codeRec_of X hcd) (hbind _ _ _ _ ?_)
  refine wpAny_newFunctionEnv_cells hk (kindsX hkind _) fun env' he s' x => ?_
  subst he
  refine ⟨(hlim.keeps F.keep).keeps x.toInCall.keep, codeAny_func ?_⟩
  obtain ⟨h₁, tk, rfl, _⟩ := x.done
  have hk₁ := x.toInCall.keep
  obtain ⟨cells, NC, Y⟩ := Cl.news (h₀ := s.heap) (Nat.le_refl _) fun n c hm => ⟨x.cell n c (lookup_of_mem_nodup (cellsFrom_names scope.names 0 (s.heap.objs.size + 1) [] [] rfl ▸ hnd) hm), x.above n c hm⟩
  refine wpAny_mono (h _ s.heap.objs.size h₁ tk cells FG ⟨x.toInCall.ns, fun b o e => hk₁ b o (of_hideAll _ e), Nat.le_of_eq (hideAll_size _ _)⟩ (fun p hp => ?_) Y BG (X₀.keeps st) (T.keeps st) (fun p hp => Heap.lt_size (N p hp).1)) (fun fl s' hl => ?_) fun _ _ y => y
  · rcases List.mem_append.mp hp with hp | hp
    · refine ⟨(NC p hp).1, (NC p hp).2.1, ?_⟩
      cases q : (hideAll s.heap (news.map (·.1))).get? p.1 with
      | none => rfl
      | some o => have := of_hideAll _ q; rw [(NC p hp).2.2] at this; cases this
    · exact ⟨hk₁ _ _ (N p hp).1, Nat.ne_of_lt (Heap.lt_size (N p hp).1), hideAll_none _ (List.mem_map_of_mem hp)⟩
  · obtain ⟨g', L', m', news', T', F', N', k⟩ := hl
    have nL₀ : h₀.get? L = none := kts_self F
    obtain ⟨oL, es, ep, hL, hLd, hLk, hLf⟩ := FG.ns
    obtain ⟨sl, hs⟩ := T'.up hL
    refine k ⟨⟨_, es, ep, F'.keep _ _ hs, hLd, hLk, hLf⟩, fun b o e => F'.keep b o (T'.other b o (st b o e) (fun q => ?_)), F.above⟩ fun p hp => ⟨(N' p hp).1, fun q => ?_, ?_⟩
    · simp only [List.filterMap_cons, hf, List.filterMap_nil, List.mem_singleton] at q
      rw [q, nL₀] at e
      cases e
    · have := (N' p hp).2.2; rw [q, hs] at this; cases this
    · cases q : h₀.get? p.1 with
      | none => rfl
      | some o =>
        obtain ⟨sl', hs'⟩ := T'.up (st _ _ q)
        have := (N' p hp).2.2
        rw [hs'] at this
        cases this
end
end
section
section
variable {w : World} {A A₀ : Around} {base h₀ : Heap} {outer : List Env} {env : Env} {L : Addr} {m : Str → Option Value} {s : Shared} {news : List (Addr × Obj)} {mg mb : Str → Option Value} {mean : ExcName → Option Value}
  {Q E : Value → Shared → Prop}
theorem XRaised.sub {G : Heap} {l : List Env} {e C : Addr} {a b : List (Addr × Obj)} {h : Heap} (x : XRaised base G l e C b h) (s : ∀ p ∈ a, p ∈ b) : XRaised base G l e C a h := by
  obtain ⟨B, h1, h2, h3, h4⟩ := x
  exact ⟨B, h1, h2, fun q hq => h3 q (s q hq), h4⟩
def kindOf (c : Int) : Option (Str × List Int) := (kindTab.find? fun r => decide (r.1 = c)).map (·.2)
theorem iterK {prog : Program} {K : Frag} {Q : Flow → Shared → Prop} {target : Expr} {body : List Stmt} {t n : Nat} {items : Array Value} {d : Option Addr} {sl : Array (Option Value)}
    (F : Fr h₀ env.locals s.heap m) (N : News h₀ env.locals s.heap news) (X : K.In h₀) (hh : A.handled = none) (ho : K.lookup t = some { cls := .type "tuple", dict := d, data := .seq items n, slots := sl })
    (h : Unr prog w A E h₀ env target body Q (fun i v => items[i]? = some v) [s.heap.objs.size, t] { s with heap := s.heap.push { cls := .type "tuple_iterator", data := .fields #[.ref t, .int 0 0] } } items.size 0 m news) :
    wpAny (model prog w) A (pyIter (.ref t)) (fun it s₂ => UnrAt prog w A h₀ env target body Q E it s₂) E s :=
  Iter_tuple_unr hh (kun_topT F X ho) F N (fun q => by have e := X _ _ ho; rw [q, kts_self F] at e; cases e) h
local macro_rules | `(tactic| walk_at "pyIter ref") => `(tactic| (k_here; (with_reducible show wpAny _ _ _ (fun it s₂ => UnrAt _ _ _ _ _ _ _ _ _ it s₂) _ _); k_dflt (refine' iterK ?F ?N ?X ?hh ?ho ?_; (case F => k_asm); (case N => k_asm); (case X => k_asm); (case hh => exact rfl); (case ho => k_is))))
local macro_rules | `(tactic| walk_at "exec Raise some none") => `(tactic| (k_dflt (refine x_raise (by exact rfl) ?_)))
local macro_rules | `(tactic| walk_at "call ref") => `(tactic| (k_here; (with_reducible show wpAny _ _ (call (Value.ref 51) [Value.str _ _]) _ _ _); k_dflt (refine' x_make (by k_asm) (by k_asm) (by k_asm) (by k_asm) (by exact rfl) (by first | exact rfl | assumption) (by first | exact rfl | assumption) (by exact rfl) (by exact Nat.le_of_ble_eq_true rfl) (by exact Nat.le_of_ble_eq_true rfl) (by k_asm) (.inl rfl) ?_); intro e' tup' d' h' tk' F' N' l1))
theorem c_kindOf {c : Int} {tc : Tok}
    (F : Fr h₀ L s.heap m) (B : Below A₀ base outer h₀) (X : (hd.heap_39 w.params).In h₀) (T : Top hd.view_39 (looseW hd.view_39 []) mean mg mb h₀)
    (hA : A.frames = some (env :: outer)) (hf : env.frame = some L) (hke : env.scope.kind = .function) (hh : A.handled = none) (hdp : A.depth ≤ 580) (hun : A.units ≤ 1800)
    (N : News h₀ L s.heap news)
    (hret : ∀ nm ps t h' tk', kindOf c = some (nm, ps) → Fr h₀ L h' m → News h₀ L h' news → Q (.str nm t) { s with heap := h', toks := tk' })
    (hraise : ∀ G e h' tk', kindOf c = none → Fr h₀ L G m → XRaised base G (env :: outer) e 51 news h' → G.UpToSlots h' → E (.ref e) { s with heap := h', toks := tk' }) :
    wpAny (model Challenge.rw_nz0252_01.row.prog w) A (call (.ref 186) [.int c tc]) Q E s := by

  revert X; k_fill; intro X
  refine up hdp hun hh hA ?_
  refine wpAny_call ?_
  k_dflt (refine' code_def (binds := [(Str.ofString "code", .int c tc)]) ?k1 ?k2 ?k3 ?k4 ?k5 ?kA ?kF ?kK ?k6 ?k7 ?k8 ?k9 ?kB ?_ ?c2 ?c3 ?c4 ?c5; (case kA => exact rfl); (case kF => assumption); (case kK => assumption); (case k1 => k_asm); (case k2 => k_asm); (case k3 => k_asm); (case k4 => k_asm); (case k5 => k_asm); (case k6 => k_is); (case k7 => k_is); (case k8 => k_room); (case k9 => exact BindsTo.of_eq rfl); (case c5 => decide); (case kB => exact locs rfl); (case c2 => exact rfl); (case c3 => exact rfl); (case c4 => exact rfl); k_whole; intro g' L' h' FG' F' N' B' X' T'; (try dsimp only); (try k_lift B'); (try k_fold))
  k_steps
  all_goals try
    subst c
    refine hret _ _ _ _ _ rfl (by k_asm) (News.right (by assumption))
  refine XMade.intro (.inl rfl) X' (by k_asm) (by k_asm) ?_
  show wpAny _ _ (leaving _ _) _ _ _
  refine leave_x1 (C := 51) B' (by k_asm) (by k_asm) (by assumption) rfl rfl ?_
  intro h' hR hU
  refine hraise _ _ _ _ ?_ FG' ?_ hU
  · simp [kindOf, kindTab, *]
  · first | exact hR | exact hR.sub fun p hp => List.mem_append_right _ hp
end
end
section
section
variable {w : World} {A A₀ : Around} {base h₀ : Heap} {outer : List Env} {env : Env} {L : Addr} {m : Str → Option Value} {s : Shared} {news : List (Addr × Obj)} {mg mb : Str → Option Value} {mean : ExcName → Option Value}
  {Q E : Value → Shared → Prop}
/-- the text's defs that have a contract: the walk stops at their calls -/
def isFn (a : Addr) : Bool := [179, 186, 193, 200, 207, 310, 315, 322, 327, 334, 341, 348, 355, 362, 367, 372, 377, 384, 389, 396, 403, 408].contains a
theorem stopFn {M : Model} {A : Around} {a : Addr} {args : List Value} {Q E : Value → Shared → Prop} {s : Shared} (_h : isFn a = true) (k : Stop (wpAny M A (call (.ref a) args) Q E s)) : wpAny M A (call (.ref a) args) Q E s := k
theorem perm_news {h : Heap} {all : List (Addr × Obj)} {b : List (Addr × Obj)} (N : News h₀ L h all) (h1 : ∀ p ∈ b, p ∈ all) : News h₀ L h b := fun p hp => N p (h1 p hp)
theorem mem_mid {pre post : List (Addr × Obj)} {x p : Addr × Obj} : p ∈ pre ++ x :: post ↔ p = x ∨ p ∈ pre ++ post := by
  simp only [List.mem_append, List.mem_cons]
  exact ⟨fun h => by rcases h with h | h | h; exact .inr (.inl h); exact .inl h; exact .inr (.inr h), fun h => by rcases h with h | h | h; exact .inr (.inl h); exact .inl h; exact .inr (.inr h)⟩
theorem app_L {prog : Program} {D : Addr} {x : Value} {vs : List Value} {n : Nat} {all : List (Addr × Obj)} {g : Obj → List (Addr × Obj)} (F : Fr h₀ L s.heap m) (N : News h₀ L s.heap all) (U : UpdF D (listOf (List.toArray vs) n) all g) (hsz : vs.length ≤ sizeLine)
    (h : ∀ h', Fr h₀ L h' m → News h₀ L h' (g (listOf (List.toArray (vs ++ [x])) (n + 1))) → Q .none { s with heap := h' }) : wpAny (model prog w) A (call (.builtin "list.append") [.ref D, x]) Q E s := by
  obtain ⟨pre, post, rfl, hg, h1, h2⟩ := U.split
  have hm := N (D, listOf (List.toArray vs) n) (List.mem_append_right _ (.head _))
  refine append_at hm.1 (fun h' hs ho => h h' (F.change hs hm.2.1 hm.2.2) (hg _ ▸ N.setIn h1 h2 hs (by rw [ho]; simp))) (by simpa using hsz)
theorem copy_L {prog : Program} {b : Addr} {vs : List Value} {n : Nat} (F : Fr h₀ L s.heap m) (N : News h₀ L s.heap news) (hb : (b, listOf (List.toArray vs) n) ∈ news) (hz : vs.length ≤ 255)
    (h : ∀ D c h', Fr h₀ L h' m → News h₀ L h' ((D, listOf (List.toArray vs) c) :: news) → (∀ q ∈ news, q.1 < D) → Q (.ref D) { s with heap := h' }) : wpAny (model prog w) A (call (.type "list") [.ref b]) Q E s :=
  kup_listOf F N hb (by simp) h (by rw [sizeLine_eq]; simp; omega)
theorem c_takeF {l : Addr} {a b : Int} {ta tb : Tok} {n : Nat} {top : Int} {tt : Tok} {all : List (Addr × Obj)} {g : Obj → List (Addr × Obj)}
    (F : Fr h₀ L s.heap m) (B : Below A₀ base outer h₀) (X : (hd.heap_39 w.params).In h₀) (T : Top hd.view_39 (looseW hd.view_39 []) mean mg mb h₀)
    (hA : A.frames = some (env :: outer)) (hf : env.frame = some L) (hke : env.scope.kind = .function) (hh : A.handled = none) (hdp : A.depth ≤ 600) (hun : A.units ≤ 2000)
    (N : News h₀ L s.heap all) (U : UpdF l (listOf #[.int a ta, .int b tb] n) all g)
    (h0a : 0 ≤ a) (h0b : 0 ≤ b) (hb : b < 2147483647) (h0t : 0 < top) (htop : top ≤ 65535)
    (hret : ∀ r t a' ta' b' tb' n' h' tk', Fr h₀ L h' m → News h₀ L h' (g (listOf #[.int a' ta', .int b' tb'] n')) → 0 ≤ r → r < top → 0 ≤ a' → 0 ≤ b' → b' < 2147483647 → Q (.int r t) { s with heap := h', toks := tk' }) :
    wpAny (model Challenge.rw_nz0252_01.row.prog w) A (call (.ref 341) [.ref l, .int top tt]) Q E s := by

  obtain ⟨pre, post, rfl, hg, h1, h2⟩ := U.split
  refine c_take (news := pre ++ post) F B X T hA hf hke hh hdp hun (perm_news N fun p hp => mem_mid.mpr (List.mem_cons.mp hp)) (fun p hp => (List.mem_append.mp hp).elim (h1 p) (h2 p)) h0a h0b hb h0t htop ?_
  intro r t a' ta' b' tb' n' h' tk' F' N' e1 e2 e3 e4 e5
  exact hret _ _ _ _ _ _ _ _ _ F' (by rw [hg]; exact perm_news N' fun p hp => List.mem_cons.mpr (mem_mid.mp hp)) e1 e2 e3 e4 e5
theorem c_oneF {l lt : Addr} {a b : Int} {ta tb : Tok} {n nt : Nat} {vs : List Value} {ns : List Int} {all : List (Addr × Obj)} {g : Obj → List (Addr × Obj)}
    (F : Fr h₀ L s.heap m) (B : Below A₀ base outer h₀) (X : (hd.heap_39 w.params).In h₀) (T : Top hd.view_39 (looseW hd.view_39 []) mean mg mb h₀)
    (hA : A.frames = some (env :: outer)) (hf : env.frame = some L) (hke : env.scope.kind = .function) (hh : A.handled = none) (hdp : A.depth ≤ 590) (hun : A.units ≤ 1900)
    (N : News h₀ L s.heap all) (U : UpdF l (listOf #[.int a ta, .int b tb] n) all g) (hm : (lt, listOf vs.toArray nt) ∈ all) (hi : IntsAre vs ns) (hne : lt ≠ l) (hp : 0 < ns.length) (hlen : ns.length ≤ 65535)
    (h0a : 0 ≤ a) (h0b : 0 ≤ b) (hb : b < 2147483647)
    (hret : ∀ r t a' ta' b' tb' n' h' tk', Fr h₀ L h' m → News h₀ L h' (g (listOf #[.int a' ta', .int b' tb'] n')) → r ∈ ns → 0 ≤ a' → 0 ≤ b' → b' < 2147483647 → Q (.int r t) { s with heap := h', toks := tk' }) :
    wpAny (model Challenge.rw_nz0252_01.row.prog w) A (call (.ref 348) [.ref l, .ref lt]) Q E s := by

  obtain ⟨pre, post, rfl, hg, h1, h2⟩ := U.split
  refine c_one (news := pre ++ post) F B X T hA hf hke hh hdp hun (perm_news N fun p hp => mem_mid.mpr (List.mem_cons.mp hp)) (fun p hp => (List.mem_append.mp hp).elim (h1 p) (h2 p)) ((mem_mid.mp hm).resolve_left fun q => hne (congrArg Prod.fst q)) hi hp hlen h0a h0b hb ?_
  intro r t a' ta' b' tb' n' h' tk' F' N' e1 e3 e4 e5
  exact hret _ _ _ _ _ _ _ _ _ F' (by rw [hg]; exact perm_news N' fun p hp => List.mem_cons.mpr (mem_mid.mp hp)) e1 e3 e4 e5
end
end
section
local macro_rules | `(tactic| walk_at "call ref") => `(tactic| (k_dflt (refine stopFn rfl ?_)))
local macro_rules | `(tactic| walk_at "pyIter ref") => `(tactic| (k_here; (with_reducible show wpAny _ _ _ (fun it s₂ => UnrAt _ _ _ _ _ _ _ _ _ it s₂) _ _); k_dflt (refine' iterK ?F ?N ?X ?hh ?ho ?_; (case F => k_asm); (case N => k_asm); (case X => k_asm); (case hh => exact rfl); (case ho => k_is))))
local macro_rules | `(tactic| walk_at "exec Raise some none") => `(tactic| (k_dflt (refine x_raise (by exact rfl) ?_)))
local macro_rules | `(tactic| walk_at "call ref") => `(tactic| (k_here; (with_reducible show wpAny _ _ (call (Value.ref 51) [Value.str _ _]) _ _ _); k_dflt (refine' x_make (by k_all) (by k_all) (by k_all) (by k_all) (by k_all) (by k_all) (by k_all) (by k_all) (by k_all) (by k_all) (by k_asm) (.inl rfl) ?_); intro e' tup' d' h' tk' F' N' l1))
local macro_rules | `(tactic| k_all) => `(tactic| first | exact rfl | k_asm | exact Nat.le_of_ble_eq_true rfl)
local macro_rules | `(tactic| k_mem) => `(tactic| first | assumption | (refine List.Mem.tail _ ?_; assumption))
local macro_rules | `(tactic| walk_at "call type:list") => `(tactic| (k_here; (with_reducible show wpAny _ _ (call (Value.type "list") [Value.ref _]) _ _ _); k_dflt (refine' copy_L ?F ?N ?b ?z ?_; (case F => k_asm); (case N => k_asm); (case b => k_mem); (case z => omega)); intro D' c' h' F' N' l1; (try k_lt l1); (try k_sweep)))
local macro_rules | `(tactic| walk_at "subscriptTail") => `(tactic| (k_here; (with_reducible show wpAny _ _ (subscriptTail _ _ (Value.ref _) (Value.int _ _)) _ _ _); k_dflt (refine item_L (by k_asm) (by k_mem) (by omega) (by omega) (by first | assumption | rfl) ?_ (by with_unfolding_all rfl))))
local macro_rules | `(tactic| walk_at "call builtin:len") => `(tactic| (k_here; (with_reducible show wpAny _ _ (call (Value.builtin "len") [Value.ref _]) _ _ _); k_dflt (refine len_L (by k_asm) (by k_mem) (by omega) ?_); intro t' tk'))
local macro_rules | `(tactic| walk_at "call builtin:list.append") => `(tactic| (k_here; (with_reducible show wpAny _ _ (call (Value.builtin _) [Value.ref _, _]) _ _ _); k_dflt (refine' app_L ?F ?N ?U ?z ?_; (case F => k_asm); (case N => k_asm); (case U => k_updF); (case z => first | assumption | exact Nat.le_of_ble_eq_true rfl)); intro h' F' N'; (try dsimp only at N'); (try k_sweep)))
local macro_rules | `(tactic| walk_at "call ref") => `(tactic| (k_here; (with_reducible show wpAny _ _ (call (Value.ref 341) [Value.ref _, Value.int _ _]) _ _ _); k_dflt (refine' c_takeF (by k_asm) (by k_asm) (by k_asm) (by k_asm) (by exact rfl) (by first | exact rfl | assumption) (by first | exact rfl | assumption) (by exact rfl) (by exact Nat.le_of_ble_eq_true rfl) (by exact Nat.le_of_ble_eq_true rfl) (by k_asm) ?U ?z1 ?z2 ?z3 ?t1 ?t2 ?_; (case U => k_updF); (case z1 => assumption); (case z2 => assumption); (case z3 => assumption); (case t1 => first | assumption | decide | omega); (case t2 => first | assumption | decide | omega)); intro r t a' ta' b' tb' n' h' tk' F' N' e1 e2 e3 e4 e5; (try dsimp only at N'); (try k_sweep)))
local macro_rules | `(tactic| walk_at "call ref") => `(tactic| (k_here; (with_reducible show wpAny _ _ (call (Value.ref 348) [Value.ref _, Value.ref _]) _ _ _); k_dflt (refine' c_oneF (by k_asm) (by k_asm) (by k_asm) (by k_asm) (by exact rfl) (by first | exact rfl | assumption) (by first | exact rfl | assumption) (by exact rfl) (by exact Nat.le_of_ble_eq_true rfl) (by exact Nat.le_of_ble_eq_true rfl) (by k_asm) ?U ?z6 ?z7 ?z8 ?z4 ?z5 ?z1 ?z2 ?z3 ?_; (case U => k_updF); (case z6 => k_mem); (case z7 => l_ints); (case z8 => k_ne); (case z4 => first | assumption | decide); (case z5 => first | assumption | decide); (case z1 => assumption); (case z2 => assumption); (case z3 => assumption)); intro r t a' ta' b' tb' n' h' tk' F' N' e1 e3 e4 e5; (try dsimp only at N'); (try k_sweep)))
section
section
variable {w : World} {A A₀ : Around} {base h₀ : Heap} {outer : List Env} {env : Env} {L : Addr} {m : Str → Option Value} {s : Shared} {news : List (Addr × Obj)} {mg mb : Str → Option Value} {mean : ExcName → Option Value}
  {Q E : Value → Shared → Prop}
/-- the row of a kind in the written table -/
def TupK (w : World) (a : Addr) (nm : Str) (code : Int) (ps : List Int) : Prop := ∃ p t1 t2 vs n1 n2, (hd.heap_39 w.params).lookup a = some (tupOf #[.str nm t1, .int code t2, .ref p] n1) ∧ (hd.heap_39 w.params).lookup p = some (tupOf (List.toArray vs) n2) ∧ IntsAre vs ps
local macro_rules | `(tactic| walk_at "exec Raise some none") => `(tactic| (refine Stop.to ?_))
theorem kind_only {code c0 : Int} {nm k0 : Str} {ps p0 : List Int} (h : (code, nm, ps) ∈ kindTab) (h0 : (c0, k0, p0) ∈ kindTab) (e : (k0 == nm) = true) : nm = k0 ∧ code = c0 ∧ ps = p0 := by
  have e' : k0 = nm := by simpa using e
  subst e'
  simp only [kindTab, List.mem_cons, Prod.mk.injEq, List.not_mem_nil, or_false] at h h0
  rcases h with ⟨rfl, e, rfl⟩ | ⟨rfl, e, rfl⟩ | ⟨rfl, e, rfl⟩ | ⟨rfl, e, rfl⟩ | ⟨rfl, e, rfl⟩ | ⟨rfl, e, rfl⟩ <;> subst e <;>
    rcases h0 with ⟨rfl, e, rfl⟩ | ⟨rfl, e, rfl⟩ | ⟨rfl, e, rfl⟩ | ⟨rfl, e, rfl⟩ | ⟨rfl, e, rfl⟩ | ⟨rfl, e, rfl⟩ <;> first | exact ⟨rfl, rfl, rfl⟩ | exact absurd e (by decide)
theorem kind_none {code : Int} {nm : Str} {ps : List Int} (h : (code, nm, ps) ∈ kindTab) (q : ∀ c k p, (c, k, p) ∈ kindTab → (k == nm) = false) : False := by
  have := q _ _ _ h
  simp at this
theorem c_kindRow {nm : Str} {tn : Tok} {code : Int} {ps : List Int}
    (F : Fr h₀ L s.heap m) (B : Below A₀ base outer h₀) (X : (hd.heap_39 w.params).In h₀) (T : Top hd.view_39 (looseW hd.view_39 []) mean mg mb h₀)
    (hA : A.frames = some (env :: outer)) (hf : env.frame = some L) (hke : env.scope.kind = .function) (hh : A.handled = none) (hdp : A.depth ≤ 580) (hun : A.units ≤ 1800)
    (N : News h₀ L s.heap news) (hnm : (code, nm, ps) ∈ kindTab)
    (hret : ∀ a h' tk', TupK w a nm code ps → Fr h₀ L h' m → News h₀ L h' news → Q (.ref a) { s with heap := h', toks := tk' }) :
    wpAny (model Challenge.rw_nz0252_01.row.prog w) A (call (.ref 179) [.str nm tn]) Q E s := by

  revert X; k_fill; intro X
  refine up hdp hun hh hA ?_
  refine wpAny_call ?_
  k_dflt (refine' code_def (binds := [(Str.ofString "kind", .str nm tn)]) ?k1 ?k2 ?k3 ?k4 ?k5 ?kA ?kF ?kK ?k6 ?k7 ?k8 ?k9 ?kB ?_ ?c2 ?c3 ?c4 ?c5; (case kA => exact rfl); (case kF => assumption); (case kK => assumption); (case k1 => k_asm); (case k2 => k_asm); (case k3 => k_asm); (case k4 => k_asm); (case k5 => k_asm); (case k6 => k_is); (case k7 => k_is); (case k8 => k_room); (case k9 => exact BindsTo.of_eq rfl); (case c5 => decide); (case kB => exact locs rfl); (case c2 => exact rfl); (case c3 => exact rfl); (case c4 => exact rfl); k_whole; intro g' L' h' FG' F' N' B' X' T'; (try dsimp only); (try k_lift B'); (try k_fold))
  k_steps
  all_goals
      first
      | (obtain ⟨rfl, rfl, rfl⟩ := kind_only hnm (k0 := Str.ofString "baseline") (.head _) (by assumption)
         refine hret _ _ _ ⟨_, _, _, _, _, _, (by k_is), (by k_is), ?_⟩ (by k_asm) (News.right (by assumption)); repeat (first | exact .nil | refine .cons _ _ ?_))
      | (obtain ⟨rfl, rfl, rfl⟩ := kind_only hnm (k0 := Str.ofString "extended") (.tail _ (.head _)) (by assumption)
         refine hret _ _ _ ⟨_, _, _, _, _, _, (by k_is), (by k_is), ?_⟩ (by k_asm) (News.right (by assumption)); repeat (first | exact .nil | refine .cons _ _ ?_))
      | (obtain ⟨rfl, rfl, rfl⟩ := kind_only hnm (k0 := Str.ofString "progressive") (.tail _ (.tail _ (.head _))) (by assumption)
         refine hret _ _ _ ⟨_, _, _, _, _, _, (by k_is), (by k_is), ?_⟩ (by k_asm) (News.right (by assumption)); repeat (first | exact .nil | refine .cons _ _ ?_))
      | (obtain ⟨rfl, rfl, rfl⟩ := kind_only hnm (k0 := Str.ofString "lossless") (.tail _ (.tail _ (.tail _ (.head _)))) (by assumption)
         refine hret _ _ _ ⟨_, _, _, _, _, _, (by k_is), (by k_is), ?_⟩ (by k_asm) (News.right (by assumption)); repeat (first | exact .nil | refine .cons _ _ ?_))
      | (obtain ⟨rfl, rfl, rfl⟩ := kind_only hnm (k0 := Str.ofString "arith") (.tail _ (.tail _ (.tail _ (.tail _ (.head _))))) (by assumption)
         refine hret _ _ _ ⟨_, _, _, _, _, _, (by k_is), (by k_is), ?_⟩ (by k_asm) (News.right (by assumption)); repeat (first | exact .nil | refine .cons _ _ ?_))
      | (obtain ⟨rfl, rfl, rfl⟩ := kind_only hnm (k0 := Str.ofString "arith progressive") (.tail _ (.tail _ (.tail _ (.tail _ (.tail _ (.head _)))))) (by assumption)
         refine hret _ _ _ ⟨_, _, _, _, _, _, (by k_is), (by k_is), ?_⟩ (by k_asm) (News.right (by assumption)); repeat (first | exact .nil | refine .cons _ _ ?_))
      | (exact (kind_none hnm fun c k p hk => by
          simp only [kindTab, List.mem_cons, Prod.mk.injEq, List.not_mem_nil, or_false] at hk
          rcases hk with ⟨-, rfl, -⟩ | ⟨-, rfl, -⟩ | ⟨-, rfl, -⟩ | ⟨-, rfl, -⟩ | ⟨-, rfl, -⟩ | ⟨-, rfl, -⟩ <;> assumption).elim)
end
end
section
section
variable {w : World} {A A₀ : Around} {base h₀ : Heap} {outer : List Env} {env : Env} {L : Addr} {m : Str → Option Value} {s : Shared} {news : List (Addr × Obj)} {mg mb : Str → Option Value} {mean : ExcName → Option Value}
  {Q E : Value → Shared → Prop}
local macro_rules | `(tactic| walk_at "eval List") => `(tactic| (k_here; (refine' list_consts ?C ?F ?N ?z ?_; (case C => repeat' constructor); (case F => k_asm); (case N => k_asm); (case z => decide)); intro l' vs' h' tk' hI' F' N' l1; (try k_lt l1); (try k_sweep)))
local macro_rules | `(tactic| l_ints) => `(tactic| assumption)
theorem join {M : Model} {t : Sem Flow} {Q' : Flow → Shared → Prop} (P : Shared → Prop) (h1 : wpAny M A t (fun f s' => Stop (f = .next ∧ P s')) E s) (h2 : ∀ s', P s' → Q' .next s') : wpAny M A t Q' E s :=
  wpAny_mono h1 (fun f s' h => by obtain ⟨rfl, h⟩ := h; exact h2 s' h) fun _ _ e => e
inductive RowAt (news : List (Addr × Obj)) (v : Value) (r : Int × Int × Int × Int) : Prop
  | mk' (l : Addr) (t0 t1 t2 t3 : Tok) (n : Nat) (e : v = .ref l) (h : (l, listOf #[.int r.1 t0, .int r.2.1 t1, .int r.2.2.1 t2, .int r.2.2.2 t3] n) ∈ news) : RowAt news v r
theorem RowAt.here {x : Addr} {a b c d : Int} {t0 t1 t2 t3 : Tok} {n : Nat} {rest : List (Addr × Obj)} : RowAt ((x, listOf #[.int a t0, .int b t1, .int c t2, .int d t3] n) :: rest) (.ref x) (a, b, c, d) := ⟨_, _, _, _, _, _, rfl, .head _⟩
theorem RowAt.sub {a b : List (Addr × Obj)} {v : Value} {r} (x : RowAt a v r) (s : ∀ p ∈ a, p ∈ b) : RowAt b v r :=
  let ⟨l, t0, t1, t2, t3, n, e, m⟩ := x; ⟨l, t0, t1, t2, t3, n, e, s _ m⟩
theorem rs_small {r : Int} (h : r ∈ [1, 3, 4, 2]) : Builtin.Range.small 0 r 1 = true := by
  simp at h; rcases h with rfl | rfl | rfl | rfl <;> rfl
theorem rs_le {r : Int} (h : r ∈ [1, 3, 4, 2]) : 1 ≤ r.toNat ∧ r.toNat ≤ 4 := by
  simp at h; rcases h with rfl | rfl | rfl | rfl <;> decide
theorem snoc_all {P : Value → Prop} {vs : List Value} {x : Value} (h : ∀ v ∈ vs, P v) (hx : P x) : ∀ v ∈ vs ++ [x], P v := fun v hv => by
  rcases List.mem_append.mp hv with hv | hv
  · exact h v hv
  · rw [List.mem_singleton.mp hv]; exact hx
theorem rn_small {n : Nat} (h : n ≤ 4) : Builtin.Range.small 0 (n : Int) 1 = true := by
  obtain rfl | rfl | rfl | rfl | rfl : n = 0 ∨ n = 1 ∨ n = 2 ∨ n = 3 ∨ n = 4 := by omega
  all_goals rfl
theorem rn_size {n : Nat} (h : n ≤ 4) : Builtin.Range.rangeSize 0 (n : Int) 1 = (n : Int) := by
  obtain rfl | rfl | rfl | rfl | rfl : n = 0 ∨ n = 1 ∨ n = 2 ∨ n = 3 ∨ n = 4 := by omega
  all_goals rfl
theorem pick (rest : List (Addr × Obj)) (x : Addr) : (∀ p ∈ rest.filter (fun p => p.1 ≠ x), p ∈ rest) ∧ (∀ p ∈ rest.filter (fun p => p.1 ≠ x), p.1 ≠ x) ∧ ∀ p ∈ rest, p.1 ≠ x → p ∈ rest.filter (fun p => p.1 ≠ x) :=
  ⟨fun p hp => (List.mem_filter.mp hp).1, fun p hp => by simpa using (List.mem_filter.mp hp).2, fun p hp hn => List.mem_filter.mpr ⟨hp, by simpa using hn⟩⟩
def RowF (news rest : List (Addr × Obj)) (v : Value) : Prop := (∃ q, RowAt rest v q) ∧ ∀ p ∈ news, v ≠ .ref p.1
theorem RowF.cons {a rest : List (Addr × Obj)} {v : Value} {p : Addr × Obj} (h : RowF a rest v) : RowF a (p :: rest) v := ⟨let ⟨q, hq⟩ := h.1; ⟨q, hq.sub fun _ h => .tail _ h⟩, h.2⟩
theorem row_keep {rest rest' : List (Addr × Obj)} {x : Addr} {o : Obj} {v : Value} {q q'} (p3 : ∀ p ∈ rest, p.1 ≠ x → p ∈ rest') (h : RowAt rest v q) (hn : RowAt ((x, o) :: rest') (.ref x) q') : ∃ q, RowAt ((x, o) :: rest') v q := by
  obtain ⟨l, t0, t1, t2, t3, n, rfl, hm⟩ := h
  by_cases e : l = x
  · subst e; exact ⟨q', hn⟩
  · exact ⟨q, l, t0, t1, t2, t3, n, rfl, .tail _ (p3 _ hm e)⟩
theorem notIn {news rest : List (Addr × Obj)} {y : Addr} (hg : Grows news rest) (h : ∀ p ∈ rest, p.1 ≠ y) : ∀ p ∈ news, Value.ref y ≠ .ref p.1 := fun p hp e => h p (hg p hp) (Value.ref.inj e).symm
theorem item_N {prog : Program} {value slice : PySem.Expr} {l : Addr} {vs : List Value} {n : Nat} {u : Tok} {v : Value} (N : News h₀ L s.heap news) (hm : (l, listOf vs.toArray n) ∈ news) (h1 : 1 ≤ vs.length) (hx : vs[vs.length - 1]? = some v) (h : Q v s)
    (hs : subscripted slice false (.ref l) (.int (-1) u) = operate [.ref l, .int (-1) u] (getItem (.ref l) (.int (-1) u))) :
    wpAny (model prog w) A (subscriptTail value slice (.ref l) (.int (-1) u)) Q E s :=
  tail_any (News.isList N hm).typeIs slot_list_getitem.lookup (wpAny_getItem_list_neg (News.isList N hm) (by decide) (by simp; omega) (by decide) (by
    have e : ((-1 : Int) + (vs.toArray.size : Int)).toNat = vs.length - 1 := by simp; omega
    rw [e]; simpa using hx) h) hs
theorem paired_of {rest : List (Addr × Obj)} : ∀ {vs : List Value}, (∀ v ∈ vs, ∃ q, RowAt rest v q) → ∃ rows, Paired (RowAt rest) vs rows
  | [], _ => ⟨[], .nil⟩
  | v :: vs, h => by
    obtain ⟨q, hq⟩ := h v (.head _)
    obtain ⟨rows, hr⟩ := paired_of fun v hv => h v (.tail _ hv)
    exact ⟨q :: rows, .cons hq hr⟩
theorem paired_imp {α β : Type} {P R : α → β → Prop} (f : ∀ a b, P a b → R a b) : ∀ {l₁ : List α} {l₂ : List β}, Paired P l₁ l₂ → Paired R l₁ l₂
  | _, _, .nil => .nil
  | _, _, .cons h t => .cons (f _ _ h) (paired_imp f t)
theorem rs_size {r : Int} (h : r ∈ [1, 3, 4, 2]) : Builtin.Range.rangeSize 0 r 1 = ((r.toNat : Nat) : Int) := by
  simp at h; rcases h with rfl | rfl | rfl | rfl <;> rfl
local macro_rules | `(tactic| walk_at "exec For Name Call cons nil") => `(tactic| (refine Stop.to ?_))
local macro_rules | `(tactic| walk_at "exec If") => `(tactic| (refine Stop.to ?_))
local macro_rules | `(tactic| walk_at "pyIter ref") => `(tactic| ((with_reducible show wpAny _ _ (pyIter (Value.ref _)) (fun it s₂ => LoopAtV _ _ _ _ _ _ _ _ _ it s₂) _ _); refine Stop.to ?_))
local macro_rules | `(tactic| walk_at "call builtin:len") => `(tactic| (k_here; (with_reducible show wpAny _ _ (call (Value.builtin "len") [Value.ref _]) _ _ _); k_dflt (refine len_L (by k_asm) (by k_mem) (by omega) ?_); intro t' tk'))
local macro_rules | `(tactic| walk_at "subscriptTail") => `(tactic| (k_here; (with_reducible show wpAny _ _ (subscriptTail _ _ (Value.ref _) (Value.int _ _)) _ _ _); k_dflt (refine item_L (by k_asm) (by k_mem) (by assumption) (by omega) (by assumption) ?_ (by with_unfolding_all rfl))))
local macro_rules | `(tactic| walk_at "subscriptTail") => `(tactic| (k_here; (with_reducible show wpAny _ _ (subscriptTail _ _ (Value.ref _) (Value.int (-1) _)) _ _ _); k_dflt (refine item_N (by k_asm) (by k_mem) (by assumption) (by assumption) ?_ (by with_unfolding_all rfl))))
/-- the state behind the first statements: code and first stand -/
inductive RJ1 (s : Shared) (g' : Heap) (L' l : Addr) (news : List (Addr × Obj)) (s' : Shared) : Prop
  | mk (h : Heap) (tk : Nat) (lf : Addr) (c : Int) (tc : Tok) (i1 : Int) (t0 t1 : Tok) (i2 : Int) (t2 : Tok) (i3 : Int) (t3 : Tok) (n1 : Nat) (a : Int) (ta : Tok) (b : Int) (tb : Tok) (n2 : Nat) (e : s' = { s with heap := h, toks := tk })
    (F : Fr g' L' h (fun y => if y = Str.ofString "first" then some (.ref lf) else if y = Str.ofString "code" then some (.int c tc) else List.lookup y [(Str.ofString "source", Value.ref l)].reverse))
    (N : News g' L' h ((lf, listOf #[.int c t0, .int i1 t1, .int i2 t2, .int i3 t3] n1) :: (l, listOf #[.int a ta, .int b tb] n2) :: news)) (nf : @Ne Nat lf l) (hlf : ∀ p ∈ news, p.1 ≠ lf) (a0 : 0 ≤ a) (b0 : 0 ≤ b) (b1 : b < 2147483647) : RJ1 s g' L' l news s'
/-- between two turns of the members' loop -/
inductive RJ2 (l lm lf : Addr) (news : List (Addr × Obj)) (i : Nat) (n' : List (Addr × Obj)) : Prop
  | mk (a : Int) (ta : Tok) (b : Int) (tb : Tok) (n2 : Nat) (vs : List Value) (nm : Nat) (rest : List (Addr × Obj)) (e : n' = (l, listOf #[.int a ta, .int b tb] n2) :: (lm, listOf (List.toArray vs) nm) :: rest) (e1 : @Ne Nat lm l) (e2 : ∀ p ∈ rest, p.1 ≠ l) (e3 : ∀ p ∈ rest, p.1 ≠ lm)
    (a0 : 0 ≤ a) (b0 : 0 ≤ b) (b1 : b < 2147483647) (hg : Grows news rest) (hf : ∃ q, RowAt rest (.ref lf) q) (hl : vs.length = i) (hv : ∀ v ∈ vs, RowF news rest v) : RJ2 l lm lf news i n'
/-- between two turns of the loop over the idents -/
inductive RJ3 (l lm lf : Addr) (vs : List Value) (news : List (Addr × Obj)) (i : Nat) (n' : List (Addr × Obj)) : Prop
  | mk (a : Int) (ta : Tok) (b : Int) (tb : Tok) (n2 : Nat) (rest : List (Addr × Obj)) (e : n' = (l, listOf #[.int a ta, .int b tb] n2) :: rest) (e1 : ∀ p ∈ rest, p.1 ≠ l) (a0 : 0 ≤ a) (b0 : 0 ≤ b) (b1 : b < 2147483647) (hg : Grows news rest)
    (hm : ∃ nm, (lm, listOf (List.toArray vs) nm) ∈ rest) (hf : ∃ q, RowAt rest (.ref lf) q) (hv : ∀ v ∈ vs, RowF news rest v) : RJ3 l lm lf vs news i n'
/-- behind the last ifs -/
inductive RJ4 (s : Shared) (g' : Heap) (L' l lm lf : Addr) (vs : List Value) (news : List (Addr × Obj)) (m' : Str → Option Value) (s' : Shared) : Prop
  | mk (h : Heap) (tk : Nat) (a : Int) (ta : Tok) (b : Int) (tb : Tok) (n2 : Nat) (rest : List (Addr × Obj)) (e : s' = { s with heap := h, toks := tk }) (F : Fr g' L' h m') (N : News g' L' h ((l, listOf #[.int a ta, .int b tb] n2) :: rest)) (e1 : ∀ p ∈ rest, p.1 ≠ l)
    (a0 : 0 ≤ a) (b0 : 0 ≤ b) (b1 : b < 2147483647) (hg : Grows news rest) (hm : ∃ nm, (lm, listOf (List.toArray vs) nm) ∈ rest) (hf : ∃ q, RowAt rest (.ref lf) q) (hv : ∀ v ∈ vs, RowF news rest v) : RJ4 s g' L' l lm lf vs news m' s'
/-- a turn's end -/
theorem unr_end {h₀ : Heap} {L I : Addr} {it : Obj} {s : Shared} {P : (Str → Option Value) → List (Addr × Obj) → Prop} {h' : Heap} {tk' : Nat} {m' : Str → Option Value} (news' : List (Addr × Obj))
    (F : Fr h₀ L h' m') (N : News h₀ L h' ((I, it) :: news')) (off : ∀ p ∈ news', p.1 ≠ I) (p : P m' news') : UnrPost h₀ L s I it P (fun _ _ => True) .next { s with heap := h', toks := tk' } := ⟨_, _, _, news', rfl, F, N, off, p⟩
theorem off_over {stored : List Str} {u m₀ : Str → Option Value} : ∀ z, stored.contains z = false → over stored u m₀ z = m₀ z := fun z hz => by unfold over; rw [hz]; rfl
theorem off_if {stored : List Str} {m m' : Str → Option Value} {k : Str} {v : Option Value} (hk : stored.contains k = true) (h : ∀ z, stored.contains z = false → m z = m' z) : ∀ z, stored.contains z = false → (if z = k then v else m z) = m' z := fun z hz => by
  rw [if_neg (fun e => by rw [e, hk] at hz; cases hz)]; exact h z hz
theorem c_rows {l : Addr} {a b : Int} {ta tb : Tok} {n : Nat}
    (F : Fr h₀ L s.heap m) (B : Below A₀ base outer h₀) (X : (hd.heap_39 w.params).In h₀) (T : Top hd.view_39 (looseW hd.view_39 []) mean mg mb h₀)
    (hA : A.frames = some (env :: outer)) (hf : env.frame = some L) (hke : env.scope.kind = .function) (hh : A.handled = none) (hdp : A.depth ≤ 580) (hun : A.units ≤ 1800)
    (N : News h₀ L s.heap ((l, listOf #[.int a ta, .int b tb] n) :: news)) (hl : ∀ p ∈ news, p.1 ≠ l)
    (h0a : 0 ≤ a) (h0b : 0 ≤ b) (hb : b < 2147483647)
    (hret : ∀ rr lf lm vs nm nr q rows a' ta' b' tb' n' rest h' tk', Fr h₀ L h' m → News h₀ L h' ((l, listOf #[.int a' ta', .int b' tb'] n') :: rest) → (∀ p ∈ rest, p.1 ≠ l) → 0 ≤ a' → 0 ≤ b' → b' < 2147483647 → Grows news rest →
      (rr, listOf #[.ref lf, .ref lm] nr) ∈ rest → RowAt rest (.ref lf) q → (lm, listOf (List.toArray vs) nm) ∈ rest → Paired (RowAt rest) vs rows → 1 ≤ rows.length → rows.length ≤ 4 → Q (.ref rr) { s with heap := h', toks := tk' }) :
    wpAny (model Challenge.rw_nz0252_01.row.prog w) A (call (.ref 362) [.ref l]) Q E s := by

  revert X; k_fill; intro X
  refine up hdp hun hh hA ?_
  refine wpAny_call ?_
  k_dflt (refine' code_def (binds := [(Str.ofString "source", .ref l)]) ?k1 ?k2 ?k3 ?k4 ?k5 ?kA ?kF ?kK ?k6 ?k7 ?k8 ?k9 ?kB ?_ ?c2 ?c3 ?c4 ?c5; (case kA => exact rfl); (case kF => assumption); (case kK => assumption); (case k1 => k_asm); (case k2 => k_asm); (case k3 => k_asm); (case k4 => k_asm); (case k5 => k_asm); (case k6 => k_is); (case k7 => k_is); (case k8 => k_room); (case k9 => exact BindsTo.of_eq rfl); (case c5 => decide); (case kB => exact locs rfl); (case c2 => exact rfl); (case c3 => exact rfl); (case c4 => exact rfl); k_whole; intro g' L' h' FG' F' N' B' X' T'; (try dsimp only); (try k_lift B'); (try k_fold))
  (try k_fold)
  k_steps
  refine Stop.of ?_
  refine join (RJ1 s g' L' l news) ?_ ?_
  · refine wpAny_If ?_
    (try k_fold)
    k_steps
    all_goals
      refine Stop.of ⟨rfl, ?_⟩
      exact ⟨_, _, _, _, _, _, _, _, _, _, _, _, _, _, _, _, _, _, rfl, by k_asm, by (rename News _ _ _ _ => N1; exact List.forall_mem_cons.mpr ⟨N1 _ (by k_mem), List.forall_mem_cons.mpr ⟨N1 _ (by k_mem), fun p hp => N1 p (by repeat (first | exact hp | refine List.Mem.tail _ ?_))⟩⟩), by k_ne, by k_all, by assumption, by assumption, by assumption⟩
  · (repeat (rename (@LT.lt Nat _ _ _) ∧ _ => hl; clear hl))
    rintro s' ⟨h, tk, lf, c, tc, i1, t0, t1, i2, t2, i3, t3, n1, a, ta, b, tb, n2, rfl, F1, N1, nf, hlf, a0, b0, b1⟩
    dsimp only
    (try k_fold)
    k_steps
    refine Stop.of ?_
    (rename Fr _ _ _ _ => lF'); (with_unfolding_all refine' For_invVF lF' ?k1 ?k2 ?_; (case k1 => exact rfl); (case k2 => exact rfl))
    (try k_fold)
    k_steps
    refine Stop.of ?_
    rename_i lm _ _ _ lt _ _ _ _ _ r tr a2 ta2 b2 tb2 n3 hh1 tkk F2 N2 er a20 b20 b21 hh2 tk2 u1 u2 u3 rg F3 N3 keep
    refine iter_R (r := _) (n := r.toNat) (news := (l, listOf #[.int a2 ta2, .int b2 tb2] n3) :: (lm, listOf (List.toArray []) 0) :: (lf, listOf #[.int c t0, .int i1 t1, .int i2 t2, .int i3 t3] n1) :: news) [Str.ofString "turn"] (RJ2 l lm lf news) (by exact rfl) rg (rs_small er) (rs_size er) F3 ?_ ?_ rfl ?_ ?_
    · exact List.forall_mem_cons.mpr ⟨N3 _ (by k_mem), List.forall_mem_cons.mpr ⟨N3 _ (by k_mem), List.forall_mem_cons.mpr ⟨N3 _ (by k_mem), fun p hp => N3 p (by repeat (first | exact hp | refine List.Mem.tail _ ?_))⟩⟩⟩
    · skip
      exact ⟨_, _, _, _, _, [], _, _, rfl, by k_ne, List.forall_mem_cons.mpr ⟨nf, hl⟩, List.forall_mem_cons.mpr ⟨by k_ne, by k_all⟩, a20, b20, b21, Grows.refl.cons, ⟨_, RowAt.here⟩, rfl, by simp⟩
    · rintro i t u news₁ I it h tk hi ⟨a, ta, b, tb, n2, vs, nm, rest, rfl, nlm, hr1, hr2, a0, b0, b1, hg, hfr, hlen, hvs⟩ hoff F N
      have nI1 : @Ne Nat l I := hoff _ (.head _)
      have hsz : vs.length ≤ sizeLine := by rw [sizeLine_eq]; have := rs_le er; omega
      have nI2 : @Ne Nat lm I := hoff _ (.tail _ (.head _))
      (try k_fold)
      k_steps
      exact unr_end ((l, listOf #[.int _ _, .int _ _] _) :: (lm, listOf (List.toArray (vs ++ [_])) _) :: (_, listOf #[.int _ _, .int _ _, .int _ _, .int _ _] _) :: rest) (by k_asm)
        (by (rename News _ _ _ _ => N4; exact List.forall_mem_cons.mpr ⟨N4 _ (by k_mem), List.forall_mem_cons.mpr ⟨N4 _ (by k_mem), List.forall_mem_cons.mpr ⟨N4 _ (by k_mem), List.forall_mem_cons.mpr ⟨N4 _ (.head _), fun p hp => N4 p (by repeat (first | exact hp | refine List.Mem.tail _ ?_))⟩⟩⟩⟩))
        (by (exact List.forall_mem_cons.mpr ⟨nI1, List.forall_mem_cons.mpr ⟨nI2, List.forall_mem_cons.mpr ⟨by k_ne, fun p hp => hoff p (.tail _ (.tail _ hp))⟩⟩⟩))
        ⟨by (repeat (first | exact off_over | refine off_if (by decide) ?_)),
        ⟨_, _, _, _, _, vs ++ [_], _, _, rfl, nlm, by (exact List.forall_mem_cons.mpr ⟨by k_ne, hr1⟩), by (exact List.forall_mem_cons.mpr ⟨by k_ne, hr2⟩), by assumption, by assumption, by assumption, hg.cons,
        by (obtain ⟨q, hq⟩ := hfr; exact ⟨q, hq.sub fun _ h => .tail _ h⟩), by (rw [List.length_append, hlen]; rfl),
        snoc_all (fun v hv => (hvs v hv).cons) ⟨⟨_, RowAt.here⟩, notIn hg (by k_all)⟩⟩⟩
    · rintro u news₁ h tk ⟨a, ta, b, tb, n2, vs, nm, rest, rfl, nlm, hr1, hr2, a0, b0, b1, hg, hfr, hlen, hvs⟩ F N
      dsimp only
      have hl4 : vs.length ≤ 4 := by have := rs_le er; omega
      (repeat (rename (@LT.lt Nat _ _ _) ∧ _ => hl; clear hl))
      (try k_fold)
      k_steps
      refine Stop.of ?_
      (rename Fr _ _ _ _ => lF'); (with_unfolding_all refine' For_invVF lF' ?k1 ?k2 ?_; (case k1 => exact rfl); (case k2 => exact rfl))
      (try k_fold)
      k_steps
      refine Stop.of ?_
      rename_i hh2 tk2 u1 u2 u3 rg F3 N3 keep
      refine iter_R (r := _) (n := vs.length) (news := (l, listOf #[.int a ta, .int b tb] n2) :: (lm, listOf (List.toArray vs) nm) :: rest) [Str.ofString "at"] (RJ3 l lm lf vs news) (by exact rfl) rg (rn_small hl4) (rn_size hl4) F3 N3 ?_ rfl ?_ ?_
      · skip
        exact ⟨_, _, _, _, _, _, rfl, List.forall_mem_cons.mpr ⟨nlm, hr1⟩, a0, b0, b1, hg.cons, ⟨_, .head _⟩, by (obtain ⟨q, hq⟩ := hfr; exact ⟨q, hq.sub fun _ h => .tail _ h⟩), fun v hv => (hvs v hv).cons⟩
      · clear a0 b0 b1 hr1 hr2 hg hfr hvs
        rintro i t u2 news₂ I it h tk hi ⟨a, ta, b, tb, n2, rest, rfl, hr1, a0, b0, b1, hg, ⟨nm, hlm⟩, hfr, hvs⟩ hoff F N
        obtain ⟨⟨q, x, s0, s1, s2, s3, nx, hv, hx⟩, hxn⟩ := hvs vs[i] (List.getElem_mem hi)
        have hxn' : ∀ p ∈ news, p.1 ≠ x := fun p hp e => hxn p hp (by rw [hv, e])
        obtain ⟨p1, p2, p3⟩ := pick rest x
        have nI1 : @Ne Nat l I := hoff _ (.head _)
        have nI2 : @Ne Nat x I := hoff _ (.tail _ hx)
        have nI3 : @Ne Nat x l := hr1 _ hx
        have N' : News g' L' h ((I, it) :: (l, listOf #[.int a ta, .int b tb] n2) :: (x, listOf #[.int q.1 s0, .int q.2.1 s1, .int q.2.2.1 s2, .int q.2.2.2 s3] nx) :: rest.filter fun p => p.1 ≠ x) :=
          List.forall_mem_cons.mpr ⟨N _ (.head _), List.forall_mem_cons.mpr ⟨N _ (.tail _ (.head _)), List.forall_mem_cons.mpr ⟨N _ (.tail _ (.tail _ hx)), fun p hp => N p (.tail _ (.tail _ (p1 p hp)))⟩⟩⟩
        have hq1 : ∀ p ∈ rest.filter fun p => p.1 ≠ x, p.1 ≠ l := fun p hp => hr1 p (p1 p hp)
        have hlm' : (lm, listOf (List.toArray vs) nm) ∈ rest.filter fun p => p.1 ≠ x := p3 _ hlm fun e => by
          have e1 := (N _ (.tail _ (.tail _ hx))).1
          have e2 := (N _ (.tail _ (.tail _ hlm))).1
          dsimp only at e1 e2 e
          rw [e, e1] at e2
          have e3 := congrArg Obj.data (Option.some.inj e2)
          dsimp only at e3
          injection e3 with e4 e5
          have hmem : vs[i] ∈ vs.toArray := by simp
          rw [← e4, hv] at hmem
          simp at hmem
        clear N
        generalize hgen : (rest.filter fun p => p.1 ≠ x) = rest' at *
        have hsub : vs[(0 + (i : Int)).toNat]? = some (.ref x) := by simp [hi, hv]
        have h00 : (0 : Int) ≤ 0 + (i : Int) := by omega
        (try k_fold)
        k_steps
        refine Stop.of ?_
        refine wpAny_If ?_
        (try k_fold)
        k_steps
        all_goals
          exact unr_end ((l, listOf #[.int _ _, .int _ _] _) :: (x, listOf #[.int _ _, .int _ _, .int _ _, .int _ _] _) :: rest') (by k_asm)
            (by (rename News _ _ _ _ => N4; exact List.forall_mem_cons.mpr ⟨N4 _ (by k_mem), List.forall_mem_cons.mpr ⟨N4 _ (by k_mem), List.forall_mem_cons.mpr ⟨N4 _ (by k_mem), fun p hp => N4 p (by repeat (first | exact hp | refine List.Mem.tail _ ?_))⟩⟩⟩))
            (by (exact List.forall_mem_cons.mpr ⟨nI1, List.forall_mem_cons.mpr ⟨nI2, fun p hp => hoff p (.tail _ (p1 p hp))⟩⟩))
            ⟨by (repeat (first | exact off_over | refine off_if (by decide) ?_)),
            ⟨_, _, _, _, _, _, rfl, by (exact List.forall_mem_cons.mpr ⟨nI3, hq1⟩), by assumption, by assumption, by assumption,
            fun p hp => .tail _ (p3 p (hg p hp) (hxn' p hp)), ⟨_, .tail _ hlm'⟩,
            by (obtain ⟨q', hq'⟩ := hfr; exact row_keep p3 hq' RowAt.here),
            fun v hv => ⟨by (obtain ⟨q', hq'⟩ := (hvs v hv).1; exact row_keep p3 hq' RowAt.here), (hvs v hv).2⟩⟩⟩
      · clear a0 b0 b1 hr1 hr2 hg hfr hvs
        rintro u2 news₂ h tk ⟨a, ta, b, tb, n2, rest, rfl, hr1, a0, b0, b1, hg, ⟨nm, hlm⟩, hfr, hvs⟩ F N
        dsimp only
        (try k_fold)
        k_steps
        refine Stop.of ?_
        rename_i r tr a2 ta2 b2 tb2 n3 hh1 tk1 F2 N2 e1 e2 e3 e4 e5 hh3 F3 N3
        have hv1 : 1 ≤ vs.length := by have := rs_le er; omega
        refine join (RJ4 s g' L' l lm lf vs news (fun y => if y = Str.ofString "way" then some (.int r tr) else over [Str.ofString "at"] u2 (over [Str.ofString "turn"] u fun y => if y = Str.ofString "members" then some (.ref lm) else if y = Str.ofString "first" then some (.ref lf) else if y = Str.ofString "code" then some (.int c tc) else List.lookup y [(Str.ofString "source", Value.ref l)].reverse) y)) ?_ ?_
        · have key : ∀ x, (∃ q, RowAt rest (.ref x) q) → x ≠ lm := by
            rintro x ⟨q, x', s0, s1, s2, s3, nx, hv, hx⟩ e
            obtain rfl := Value.ref.inj hv
            have e1 := (N3 _ (.tail _ hx)).1
            have e2 := (N3 _ (.tail _ hlm)).1
            dsimp only at e1 e2
            rw [← e, e1] at e2
            have e3 := congrArg Obj.data (Option.some.inj e2)
            dsimp only at e3
            injection e3 with e4 e5
            obtain ⟨⟨q', x'', _, _, _, _, _, hv', _⟩, _⟩ := hvs vs[0] (List.getElem_mem hv1)
            have hmem : vs[0] ∈ vs.toArray := by simp
            rw [← e4, hv'] at hmem
            simp at hmem
          refine wpAny_If ?_
          by_cases hr2 : r < 2
          · have hlf' := key lf hfr
            have hfr0 := hfr
            obtain ⟨q, x, s0, s1, s2, s3, nx, hv, hx⟩ := hfr
            obtain rfl := Value.ref.inj hv
            obtain ⟨p1, p2, p3⟩ := pick rest lf
            have nI3 : @Ne Nat lf l := hr1 _ hx
            have N' : News g' L' hh3 ((l, listOf #[.int a2 ta2, .int b2 tb2] n3) :: (lf, listOf #[.int q.1 s0, .int q.2.1 s1, .int q.2.2.1 s2, .int q.2.2.2 s3] nx) :: rest.filter fun p => p.1 ≠ lf) :=
              List.forall_mem_cons.mpr ⟨N3 _ (.head _), List.forall_mem_cons.mpr ⟨N3 _ (.tail _ hx), fun p hp => N3 p (.tail _ (p1 p hp))⟩⟩
            have hq1 : ∀ p ∈ rest.filter fun p => p.1 ≠ lf, p.1 ≠ l := fun p hp => hr1 p (p1 p hp)
            have hlm' : (lm, listOf (List.toArray vs) nm) ∈ rest.filter fun p => p.1 ≠ lf := p3 _ hlm (Ne.symm hlf')
            clear N3 N2 F2
            generalize hgen : (rest.filter fun p => p.1 ≠ lf) = rest' at *
            obtain rfl | rfl : r = 0 ∨ r = 1 := by omega
            all_goals
              (try k_fold)
              k_steps
            all_goals
              refine Stop.of ⟨rfl, ?_⟩
              exact ⟨_, _, _, _, _, _, _, (lf, listOf #[.int _ _, .int _ _, .int _ _, .int _ _] _) :: rest', rfl, by k_asm,
                by (rename News _ _ _ _ => N4; exact List.forall_mem_cons.mpr ⟨N4 _ (by k_mem), List.forall_mem_cons.mpr ⟨N4 _ (by k_mem), fun p hp => N4 p (by repeat (first | exact hp | refine List.Mem.tail _ ?_))⟩⟩),
                by (exact List.forall_mem_cons.mpr ⟨nI3, hq1⟩), by assumption, by assumption, by assumption,
                fun p hp => .tail _ (p3 p (hg p hp) (hlf p hp)), ⟨_, .tail _ hlm'⟩,
                by (obtain ⟨q', hq'⟩ := hfr0; exact row_keep p3 hq' RowAt.here),
                fun v hv => ⟨by (obtain ⟨q', hq'⟩ := (hvs v hv).1; exact row_keep p3 hq' RowAt.here), (hvs v hv).2⟩⟩
          · by_cases hr6 : r < 6
            · have hi : vs.length - 1 < vs.length := by omega
              obtain ⟨⟨q, x, s0, s1, s2, s3, nx, hv, hx⟩, hxn⟩ := hvs vs[vs.length - 1] (List.getElem_mem hi)
              have hxn' : ∀ p ∈ news, p.1 ≠ x := fun p hp e => hxn p hp (by rw [hv, e])
              have hfr0 := hfr
              have hlx' := key x ⟨q, x, s0, s1, s2, s3, nx, rfl, hx⟩
              obtain ⟨p1, p2, p3⟩ := pick rest x
              have nI3 : @Ne Nat x l := hr1 _ hx
              have N' : News g' L' hh3 ((l, listOf #[.int a2 ta2, .int b2 tb2] n3) :: (x, listOf #[.int q.1 s0, .int q.2.1 s1, .int q.2.2.1 s2, .int q.2.2.2 s3] nx) :: rest.filter fun p => p.1 ≠ x) :=
                List.forall_mem_cons.mpr ⟨N3 _ (.head _), List.forall_mem_cons.mpr ⟨N3 _ (.tail _ hx), fun p hp => N3 p (.tail _ (p1 p hp))⟩⟩
              have hq1 : ∀ p ∈ rest.filter fun p => p.1 ≠ x, p.1 ≠ l := fun p hp => hr1 p (p1 p hp)
              have hlm' : (lm, listOf (List.toArray vs) nm) ∈ rest.filter fun p => p.1 ≠ x := p3 _ hlm (Ne.symm hlx')
              clear N3 N2 F2
              generalize hgen : (rest.filter fun p => p.1 ≠ x) = rest' at *
              have hsub : vs[vs.length - 1]? = some (.ref x) := by simp [hi, hv]
              obtain rfl | rfl | rfl | rfl : r = 2 ∨ r = 3 ∨ r = 4 ∨ r = 5 := by omega
              all_goals
                (try k_fold)
                k_steps
                refine Stop.of ?_
                refine wpAny_If ?_
                (try k_fold)
                k_steps
              all_goals
                refine Stop.of ⟨rfl, ?_⟩
                exact ⟨_, _, _, _, _, _, _, (x, listOf #[.int _ _, .int _ _, .int _ _, .int _ _] _) :: rest', rfl, by k_asm,
                by (rename News _ _ _ _ => N4; exact List.forall_mem_cons.mpr ⟨N4 _ (by k_mem), List.forall_mem_cons.mpr ⟨N4 _ (by k_mem), fun p hp => N4 p (by repeat (first | exact hp | refine List.Mem.tail _ ?_))⟩⟩),
                by (exact List.forall_mem_cons.mpr ⟨nI3, hq1⟩), by assumption, by assumption, by assumption,
                fun p hp => .tail _ (p3 p (hg p hp) (hxn' p hp)), ⟨_, .tail _ hlm'⟩,
                by (obtain ⟨q', hq'⟩ := hfr0; exact row_keep p3 hq' RowAt.here),
                fun v hv => ⟨by (obtain ⟨q', hq'⟩ := (hvs v hv).1; exact row_keep p3 hq' RowAt.here), (hvs v hv).2⟩⟩
            · k_steps
              refine Stop.of ?_
              refine wpAny_If ?_
              (try k_fold)
              k_steps
              refine Stop.of ⟨rfl, ?_⟩
              exact ⟨_, _, _, _, _, _, _, rest, rfl, by k_asm, by k_asm, hr1, by assumption, by assumption, by assumption, hg, ⟨_, hlm⟩, hfr, hvs⟩
        · clear hr1 hg hfr hvs a0 b0 b1 e3 e4 e5
          rintro s' ⟨h, tk, a, ta, b, tb, n2, rest, rfl, F, N, hr1, a0, b0, b1, hg, ⟨nm, hlm⟩, hfr, hvs⟩
          dsimp only
          (try k_fold)
          k_steps
          obtain ⟨q, hq⟩ := hfr
          obtain ⟨rows, hrows⟩ := paired_of fun v hv => (hvs v hv).1
          have hll := hrows.length
          refine hret _ lf lm vs nm _ q rows _ _ _ _ _ ((_, listOf #[.ref lf, .ref lm] _) :: rest) _ _ (by k_asm) (by (rename News _ _ _ _ => N4; exact List.forall_mem_cons.mpr ⟨N4 _ (by k_mem), List.forall_mem_cons.mpr ⟨N4 _ (by k_mem), fun p hp => N4 p (by repeat (first | exact hp | refine List.Mem.tail _ ?_))⟩⟩))
            (by (exact List.forall_mem_cons.mpr ⟨by k_ne, hr1⟩)) (by assumption) (by assumption) (by assumption) hg.cons (.head _) (hq.sub fun _ h => .tail _ h) (.tail _ hlm) (paired_imp (fun _ _ x => x.sub fun _ h => .tail _ h) hrows) (by omega) (by omega)
end
end
section
section
variable {w : World} {A A₀ : Around} {base h₀ : Heap} {outer : List Env} {env : Env} {L : Addr} {m : Str → Option Value} {s : Shared} {news : List (Addr × Obj)} {mg mb : Str → Option Value} {mean : ExcName → Option Value}
  {Q E : Value → Shared → Prop}
theorem paired_at {α β : Type} {P : α → β → Prop} : ∀ {l₁ : List α} {l₂ : List β}, Paired P l₁ l₂ → ∀ {i : Nat} {v : α}, l₁[i]? = some v → ∃ q, l₂[i]? = some q ∧ P v q
  | _, _, .nil, i, v, h => by simp at h
  | _, _, .cons h t, 0, v, e => by simp at e; subst e; exact ⟨_, rfl, h⟩
  | _, _, .cons h t, i + 1, v, e => by simpa using paired_at t (i := i) (by simpa using e)
theorem paired_at2 {α β : Type} {P : α → β → Prop} {l₁ : List α} {l₂ : List β} (h : Paired P l₁ l₂) {i : Nat} {q : β} (e : l₂[i]? = some q) : ∃ v, l₁[i]? = some v ∧ P v q := by
  have hi : i < l₂.length := by
    rcases Nat.lt_or_ge i l₂.length with h | h
    · exact h
    · rw [List.getElem?_eq_none h] at e; cases e
  have hi' : i < l₁.length := by rw [h.length]; exact hi
  obtain ⟨q', e', p⟩ := paired_at h (List.getElem?_eq_getElem hi')
  rw [e] at e'; cases e'
  exact ⟨_, List.getElem?_eq_getElem hi', p⟩
theorem paired_take {α β : Type} {P : α → β → Prop} {ys : List α} {rows : List β} {i : Nat} {q : β} {y : α} (h : Paired P ys (rows.take i)) (e : rows[i]? = some q) (p : P y q) : Paired P (ys ++ [y]) (rows.take (i + 1)) := by
  have hi : i < rows.length := by
    rcases Nat.lt_or_ge i rows.length with h | h
    · exact h
    · rw [List.getElem?_eq_none h] at e; cases e
  rw [List.take_succ_eq_append_getElem hi]
  rw [List.getElem?_eq_getElem hi] at e
  cases e
  exact h.snoc p
abbrev ent (w : World) (k : String) (t : Tok) (v : Value) : DictEntry := ⟨PyData.keyHash w.params (Str.ofString k), .str (Str.ofString k) t, v⟩
theorem itemK {prog : Program} {K : Frag} {value slice : PySem.Expr} {t n : Nat} {vs : List Value} {k : Int} {u : Tok} {v : Value} (X : K.In h₀) (F : Fr h₀ L s.heap m) (ho : K.lookup t = some (tupOf (List.toArray vs) n)) (h0 : 0 ≤ k) (hhi : k < 2 ^ 63) (hx : vs[k.toNat]? = some v) (h : Q v s)
    (hs : subscripted slice false (.ref t) (.int k u) = operate [.ref t, .int k u] (getItem (.ref t) (.int k u))) :
    wpAny (model prog w) A (subscriptTail value slice (.ref t) (.int k u)) Q E s :=
  have hlt : k.toNat < vs.length := by
    rcases Nat.lt_or_ge k.toNat vs.length with h | h
    · exact h
    · rw [List.getElem?_eq_none h] at hx; cases hx
  tail_any (kun_topT F X ho).typeIs slot_tuple_getitem.lookup (getItem_tuple (kun_topT F X ho) (by omega) hhi (seqIndex_of h0 (by rw [List.size_toArray]; omega)) (by simpa using hx) h) hs
/-- a component (of a head, of a frame) with its four numbers -/
inductive CompAt (w : World) (C : Addr) (news : List (Addr × Obj)) (v : Value) (q : Int × Int × Int × Int) : Prop
  | mk' (x dx : Addr) (k0 t0 k1 t1 k2 t2 k3 t3 : Tok) (e : v = .ref x) (h1 : (x, instObj C dx) ∈ news)
    (h2 : (dx, dictOf [ent w "ident" k0 (.int q.1 t0), ent w "across" k1 (.int q.2.1 t1), ent w "down" k2 (.int q.2.2.1 t2), ent w "quant" k3 (.int q.2.2.2 t3)] 4) ∈ news) : CompAt w C news v q
theorem CompAt.sub {C : Addr} {a b : List (Addr × Obj)} {v : Value} {q} (x : CompAt w C a v q) (s : ∀ p ∈ a, p ∈ b) : CompAt w C b v q :=
  let ⟨x, dx, k0, t0, k1, t1, k2, t2, k3, t3, e, h1, h2⟩ := x; ⟨x, dx, k0, t0, k1, t1, k2, t2, k3, t3, e, s _ h1, s _ h2⟩
theorem CompAt.mk {C x dx : Addr} {a b c d : Int} {k0 t0 k1 t1 k2 t2 k3 t3 : Tok} (h1 : (x, instObj C dx) ∈ news) (h2 : (dx, dictOf [ent w "ident" k0 (.int a t0), ent w "across" k1 (.int b t1), ent w "down" k2 (.int c t2), ent w "quant" k3 (.int d t3)] 4) ∈ news) : CompAt w C news (.ref x) (a, b, c, d) :=
  ⟨x, dx, k0, t0, k1, t1, k2, t2, k3, t3, rfl, h1, h2⟩
inductive HeadAt (w : World) (news : List (Addr × Obj)) (v : Value) (q : Int × Int × Int × Int) (lc : Addr) : Prop
  | mk' (x dx : Addr) (k0 t0 k1 t1 k2 t2 k3 t3 k4 : Tok) (e : v = .ref x) (h1 : (x, instObj 245 dx) ∈ news)
    (h2 : (dx, dictOf [ent w "code" k0 (.int q.1 t0), ent w "precision" k1 (.int q.2.1 t1), ent w "height" k2 (.int q.2.2.1 t2), ent w "width" k3 (.int q.2.2.2 t3), ent w "components" k4 (.ref lc)] 5) ∈ news) : HeadAt w news v q lc
inductive FrameAt (w : World) (news : List (Addr × Obj)) (v : Value) (kind : Str) (p h wd : Int) (lc : Addr) (n : Int) : Prop
  | mk' (x dx : Addr) (k0 t0 k1 t1 k2 t2 k3 t3 k4 k5 t5 : Tok) (e : v = .ref x) (h1 : (x, instObj 168 dx) ∈ news)
    (h2 : (dx, dictOf [ent w "kind" k0 (.str kind t0), ent w "precision" k1 (.int p t1), ent w "height" k2 (.int h t2), ent w "width" k3 (.int wd t3), ent w "components" k4 (.ref lc), ent w "n" k5 (.int n t5)] 6) ∈ news) : FrameAt w news v kind p h wd lc n
def ListAt (news : List (Addr × Obj)) (l : Addr) (vs : List Value) : Prop := ∃ n, (l, listOf (List.toArray vs) n) ∈ news
end
section
variable {prog : Program} {w : World} {A : Around} {E : Value → Shared → Prop} {s : Shared} {env : Env} {h₀ : Heap} {L : Addr} {m : Str → Option Value} {target elt iter : Expr} {scope : Scope} {cl : List (Str × Addr)} {pos : Pos}
open LCg in
theorem lc_evalF {ax : Addr} {vs : List Value} {k : Nat} {news : List (Addr × Obj)} {Q : Value → Shared → Prop}
    (_F₀ : Fr h₀ L s.heap m) (J : Nat → List Value → List (Addr × Obj) → Prop) (Bd : Nat → Value → (Str → Option Value) → Prop)
    (hend : EndOk prog w A h₀)
    (he : wpAny (model prog w) A (eval iter env) (fun xv s₁ => xv = .ref ax ∧ ∃ tk h, s₁ = { s with heap := h, toks := tk } ∧ Fr h₀ L h m ∧ News h₀ L h news) E s)
    (hm : (ax, listOf vs.toArray k) ∈ news) (hsz : vs.length ≤ sizeLine)
    (hclos : closureFor scope env = pure cl) (hcell : ∀ y ∈ scope.names, y.2 ≠ .cell) (hkind : scope.kind = .function)
    (hnames : ∀ y ∈ scope.names, y.2 = .local → scope.names.lookup y.1 = some .local) (h0 : J 0 [] news)
    (asg : ∀ i v ys news' C m₀ (s : Shared) (Q : Unit → Shared → Prop) (E' : Value → Shared → Prop), vs[i]? = some v → J i ys news' → Fr h₀ L s.heap m → News h₀ L s.heap news' → s.heap.Ns C m₀ → (∀ p ∈ news', p.1 ≠ C) → C ≠ L → h₀.get? C = none →
       (∀ h₃ m₃ tk, (∀ b o, b ≠ C → s.heap.get? b = some o → h₃.get? b = some o) → h₃.Ns C m₃ → Bd i v m₃ → Q () { s with heap := h₃, toks := tk }) → wpAny (model prog w) A (assign target (compEnvC scope cl C env) v) Q E' s)
    (turn : ∀ i v ys news₁ I oI C oC D m₂ h tk (E' : Value → Shared → Prop), vs[i]? = some v → J i ys news₁ → (ax, listOf vs.toArray k) ∈ news₁ → NsObj oC m₂ → Bd i v m₂ → Fr h₀ L h m → News h₀ L h ((I, oI) :: (C, oC) :: (D, lst ys) :: news₁) → Off3 I C D news₁ → ((@Ne Nat I C) ∧ (@Ne Nat I D) ∧ (@Ne Nat C D)) →
      wpAny (model prog w) A (eval elt (compEnvC scope cl C env)) (CompEnd h₀ L m { s with heap := h, toks := tk } I oI C oC D (lst ys) (fun n' => (ax, listOf vs.toArray k) ∈ n') (fun y news' => J (i + 1) (ys ++ [y]) news')) E' { s with heap := h, toks := tk })
    (done : ∀ D ys news' h tk, J vs.length ys news' → Fr h₀ L h m → News h₀ L h ((D, listOf ys.toArray ys.length) :: news') → (∀ p ∈ news', p.1 ≠ D) → Q (.ref D) { s with heap := h, toks := tk })
    (hs : ∀ x, foldedSetIterable iter env x = pure x := by intro _; rfl) :
    wpAny (model prog w) A (eval (.ListComp elt [⟨target, iter, [], 0⟩] scope pos) env) Q E s :=
  lc_eval J Bd hend he hm hsz hclos hcell hkind hnames h0 asg turn done hs
open LCg in
theorem lc_asgF {ax : Addr} {vs : List Value} {k : Nat} {news : List (Addr × Obj)} {Q : Flow → Shared → Prop} {y : Str} {py spos : Pos}
    (_F₀ : Fr h₀ L s.heap m) (J : Nat → List Value → List (Addr × Obj) → Prop) (Bd : Nat → Value → (Str → Option Value) → Prop)
    (hend : EndOk prog w A h₀) (hLe : env.locals = L)
    (he : wpAny (model prog w) A (eval iter env) (fun xv s₁ => xv = .ref ax ∧ ∃ tk h, s₁ = { s with heap := h, toks := tk } ∧ Fr h₀ L h m ∧ News h₀ L h news) E s)
    (hm : (ax, listOf vs.toArray k) ∈ news) (hsz : vs.length ≤ sizeLine)
    (hsw : swapsWith (.ListComp elt [⟨target, iter, [], 0⟩] scope pos) (some (.Name y py)) spos.line env = pure true)
    (hclos : closureFor scope env = pure cl) (hcell : ∀ y ∈ scope.names, y.2 ≠ .cell) (hkind : scope.kind = .function)
    (hnames : ∀ y ∈ scope.names, y.2 = .local → scope.names.lookup y.1 = some .local)
    (hy : env.kindOf y = some .local) (hp : (env.scope.kind == .class || (env.scope.kind == .module && env.locals != env.globals)) = false) (h0 : J 0 [] news)
    (asg : ∀ i v ys news' C m₀ (s : Shared) (Q : Unit → Shared → Prop) (E' : Value → Shared → Prop), vs[i]? = some v → J i ys news' → Fr h₀ L s.heap m → News h₀ L s.heap news' → s.heap.Ns C m₀ → (∀ p ∈ news', p.1 ≠ C) → C ≠ L → h₀.get? C = none →
       (∀ h₃ m₃ tk, (∀ b o, b ≠ C → s.heap.get? b = some o → h₃.get? b = some o) → h₃.Ns C m₃ → Bd i v m₃ → Q () { s with heap := h₃, toks := tk }) → wpAny (model prog w) A (assign target (compEnvC scope cl C env) v) Q E' s)
    (turn : ∀ i v ys news₁ I oI C oC D m₂ h tk (E' : Value → Shared → Prop), vs[i]? = some v → J i ys news₁ → (ax, listOf vs.toArray k) ∈ news₁ → NsObj oC m₂ → Bd i v m₂ → Fr h₀ L h m → News h₀ L h ((I, oI) :: (C, oC) :: (D, lst ys) :: news₁) → Off3 I C D news₁ → ((@Ne Nat I C) ∧ (@Ne Nat I D) ∧ (@Ne Nat C D)) →
      wpAny (model prog w) A (eval elt (compEnvC scope cl C env)) (CompEnd h₀ L m { s with heap := h, toks := tk } I oI C oC D (lst ys) (fun n' => (ax, listOf vs.toArray k) ∈ n') (fun y news' => J (i + 1) (ys ++ [y]) news')) E' { s with heap := h, toks := tk })
    (done : ∀ D ys news' h tk, J vs.length ys news' → Fr h₀ L h (fun z => if z = y then some (.ref D) else m z) → News h₀ L h ((D, listOf ys.toArray ys.length) :: news') → (∀ p ∈ news', p.1 ≠ D) → Q .next { s with heap := h, toks := tk })
    (hs : ∀ x, foldedSetIterable iter env x = pure x := by intro _; rfl) :
    wpAny (model prog w) A (exec (.Assign [.Name y py] (.ListComp elt [⟨target, iter, [], 0⟩] scope pos) spos) env) Q E s :=
  lc_asg J Bd hend hLe he hm hsz hsw hclos hcell hkind hnames hy hp h0 asg turn done hs
end
end
section
section
variable {w : World} {A A₀ : Around} {base h₀ : Heap} {outer : List Env} {env : Env} {L : Addr} {m : Str → Option Value} {s : Shared} {news : List (Addr × Obj)} {mg mb : Str → Option Value} {mean : ExcName → Option Value}
  {Q E : Value → Shared → Prop}
local macro_rules | `(tactic| walk_at "exec Assign cons ListComp") => `(tactic| (refine Stop.to ?_))
theorem c_head {lf lm : Addr} {q : Int × Int × Int × Int} {vs : List Value} {nm nf : Nat} {f0 f1 f2 f3 : Tok} {rows : List (Int × Int × Int × Int)}
    (F : Fr h₀ L s.heap m) (B : Below A₀ base outer h₀) (X : (hd.heap_39 w.params).In h₀) (T : Top hd.view_39 (looseW hd.view_39 []) mean mg mb h₀)
    (hA : A.frames = some (env :: outer)) (hf : env.frame = some L) (hke : env.scope.kind = .function) (hh : A.handled = none) (hdp : A.depth ≤ 580) (hun : A.units ≤ 1800)
    (N : News h₀ L s.heap news) (hf4 : (lf, listOf #[.int q.1 f0, .int q.2.1 f1, .int q.2.2.1 f2, .int q.2.2.2 f3] nf) ∈ news) (hm : (lm, listOf (List.toArray vs) nm) ∈ news) (hr : Paired (RowAt news) vs rows) (hlen : rows.length ≤ 4)
    (hret : ∀ v lc ys news' h' tk', Fr h₀ L h' m → News h₀ L h' news' → Grows news news' → HeadAt w news' v q lc → ListAt news' lc ys → Paired (CompAt w 224 news') ys rows → Q v { s with heap := h', toks := tk' }) :
    wpAny (model Challenge.rw_nz0252_01.row.prog w) A (call (.ref 372) [.ref lf, .ref lm]) Q E s := by

  revert X; k_fill; intro X
  refine up hdp hun hh hA ?_
  refine wpAny_call ?_
  k_dflt (refine' code_def (binds := [(Str.ofString "first", .ref lf), (Str.ofString "members", .ref lm)]) ?k1 ?k2 ?k3 ?k4 ?k5 ?kA ?kF ?kK ?k6 ?k7 ?k8 ?k9 ?kB ?_ ?c2 ?c3 ?c4 ?c5; (case kA => exact rfl); (case kF => assumption); (case kK => assumption); (case k1 => k_asm); (case k2 => k_asm); (case k3 => k_asm); (case k4 => k_asm); (case k5 => k_asm); (case k6 => k_is); (case k7 => k_is); (case k8 => k_room); (case k9 => exact BindsTo.of_eq rfl); (case c5 => decide); (case kB => exact locs rfl); (case c2 => exact rfl); (case c3 => exact rfl); (case c4 => exact rfl); k_whole; intro g' L' h' FG' F' N' B' X' T'; (try dsimp only); (try k_lift B'); (try k_fold))
  k_steps
  refine Stop.of ?_
  have hlv := hr.length
  refine lc_asgF (by k_asm) (ax := lm) (vs := vs) (k := nm) (news := news) (fun i ys n' => Grows news n' ∧ Paired (CompAt w 224 n') ys (rows.take i)) (fun i v m₂ => ∃ t0 t1 t2 t3 q, rows[i]? = some q ∧ m₂ (Str.ofString "ident") = some (.int q.1 t0) ∧ m₂ (Str.ofString "across") = some (.int q.2.1 t1) ∧ m₂ (Str.ofString "down") = some (.int q.2.2.1 t2) ∧ m₂ (Str.ofString "slot") = some (.int q.2.2.2 t3))
    (EndOk.ofNone rfl) rfl ?_ hm (by rw [sizeLine_eq]; omega) (by with_unfolding_all rfl) (by with_unfolding_all rfl) (by decide) (by rfl) (by decide) (by rfl) (by rfl) ⟨Grows.refl, .nil⟩ ?_ ?_ ?_
  · k_steps
    all_goals k_asm
  · intro i v ys news' C m₀ s Q E' hv ⟨hg, hp⟩ F N hns hoff hCL hC₀ h
    obtain ⟨q, hq, r, t0, t1, t2, t3, n, rfl, hr'⟩ := paired_at hr hv
    exact asg_four (EndOk.ofNone rfl) F N (hg _ hr') hns rfl rfl rfl rfl rfl (by decide) fun h₃ m₃ tk k n e => h h₃ m₃ tk k n ⟨t0, t1, t2, t3, q, hq, e.1, e.2.1, e.2.2.1, e.2.2.2⟩
  · intro i v ys news₁ I oI C oC D m₂ h tk E' hv ⟨hg, hp⟩ hm' hC ⟨t0, t1, t2, t3, q, hq, e0, e1, e2, e3⟩ F N off ne
    k_steps
    rename News _ _ _ _ => N4
    exact LCg.CompEnd.intro (by k_asm) N4 ((_, instObj 224 _) :: (_, dictOf [_, _, _, _] _) :: news₁)
      (List.forall_mem_cons.mpr ⟨by k_mem, List.forall_mem_cons.mpr ⟨by k_mem, List.forall_mem_cons.mpr ⟨by k_mem, List.forall_mem_cons.mpr ⟨by exact .head _, List.forall_mem_cons.mpr ⟨by exact .tail _ (.head _), fun p hp => by repeat (first | exact hp | refine List.Mem.tail _ ?_)⟩⟩⟩⟩⟩)
      ⟨⟨by k_ne, by k_ne, by k_ne⟩, ⟨by k_ne, by k_ne, by k_ne⟩, off⟩ (.tail _ (.tail _ hm')) ⟨hg.cons.cons, paired_take (paired_imp (fun _ _ x => x.sub fun _ h => .tail _ (.tail _ h)) hp) hq (CompAt.mk (.head _) (.tail _ (.head _)))⟩
  · intro D ys news' h tk ⟨hg, hp⟩ F N hoff
    have hf4' := hg _ hf4
    rw [hlv, List.take_length] at hp
    k_steps
    exact hret _ D ys _ _ _ (by k_asm) (by k_asm) (Grows.cons (Grows.cons (hg.cons))) ⟨_, _, _, _, _, _, _, _, _, _, _, rfl, .head _, .tail _ (.head _)⟩ ⟨_, .tail _ (.tail _ (.head _))⟩ (paired_imp (fun _ _ x => x.sub fun _ h => .tail _ (.tail _ (.tail _ h))) hp)
end
end
section
section
variable {w : World} {A A₀ : Around} {base h₀ : Heap} {outer : List Env} {env : Env} {L : Addr} {m : Str → Option Value} {s : Shared} {news : List (Addr × Obj)} {mg mb : Str → Option Value} {mean : ExcName → Option Value}
  {Q E : Value → Shared → Prop}
local macro_rules | `(tactic| walk_at "none such") => `(tactic| skip)
def compOk (q : Int × Int × Int × Int) : Bool := decide (0 ≤ q.1 ∧ q.1 ≤ 255) && (decide (1 ≤ q.2.1 ∧ q.2.1 ≤ 4) && (decide (1 ≤ q.2.2.1 ∧ q.2.2.1 ≤ 4) && decide (0 ≤ q.2.2.2 ∧ q.2.2.2 ≤ 3)))
local macro_rules | `(tactic| walk_at "exec Raise some none") => `(tactic| (refine Stop.to ?_))
theorem c_checkComp {v : Value} {q : Int × Int × Int × Int}
    (F : Fr h₀ L s.heap m) (B : Below A₀ base outer h₀) (X : (hd.heap_39 w.params).In h₀) (T : Top hd.view_39 (looseW hd.view_39 []) mean mg mb h₀)
    (hA : A.frames = some (env :: outer)) (hf : env.frame = some L) (hke : env.scope.kind = .function) (hh : A.handled = none) (hdp : A.depth ≤ 580) (hun : A.units ≤ 1800)
    (N : News h₀ L s.heap news) (hv : CompAt w 102 news v q)
    (hret : ∀ h' tk', compOk q = true → Fr h₀ L h' m → News h₀ L h' news → Q .none { s with heap := h', toks := tk' })
    (hraise : ∀ G e h' tk', compOk q = false → Fr h₀ L G m → XRaised base G (env :: outer) e 51 news h' → G.UpToSlots h' → E (.ref e) { s with heap := h', toks := tk' }) :
    wpAny (model Challenge.rw_nz0252_01.row.prog w) A (call (.ref 193) [v]) Q E s := by

  obtain ⟨x, dx, k0, t0, k1, t1, k2, t2, k3, t3, rfl, hx, hdx⟩ := hv
  revert X; k_fill; intro X
  refine up hdp hun hh hA ?_
  refine wpAny_call ?_
  k_dflt (refine' code_def (binds := [(Str.ofString "component", .ref x)]) ?k1 ?k2 ?k3 ?k4 ?k5 ?kA ?kF ?kK ?k6 ?k7 ?k8 ?k9 ?kB ?_ ?c2 ?c3 ?c4 ?c5; (case kA => exact rfl); (case kF => assumption); (case kK => assumption); (case k1 => k_asm); (case k2 => k_asm); (case k3 => k_asm); (case k4 => k_asm); (case k5 => k_asm); (case k6 => k_is); (case k7 => k_is); (case k8 => k_room); (case k9 => exact BindsTo.of_eq rfl); (case c5 => decide); (case kB => exact locs rfl); (case c2 => exact rfl); (case c3 => exact rfl); (case c4 => exact rfl); k_whole; intro g' L' h' FG' F' N' B' X' T'; (try dsimp only); (try k_lift B'); (try k_fold))
  k_steps
  · exact hret _ _ (by simp [compOk]; omega) (by k_asm) (by k_asm)
  all_goals
    refine Stop.of ?_
    refine x_raise (by exact rfl) ?_
    k_steps
    refine XMade.intro (.inl rfl) X' (by k_asm) (by k_asm) ?_
    show wpAny _ _ (leaving _ _) _ _ _
    refine leave_x1 (C := 51) B' (by k_asm) (by k_asm) (by assumption) rfl rfl ?_
    intro h' hR hU
    exact hraise _ _ _ _ (by simp [compOk]; omega) FG' (by first | exact hR | exact hR.sub fun p hp => List.mem_append_right _ hp | exact hR.sub fun p hp => by (repeat (first | exact hp | refine List.Mem.tail _ ?_))) hU
end
end
section
section
variable {w : World} {A A₀ : Around} {base h₀ : Heap} {outer : List Env} {env : Env} {L : Addr} {m : Str → Option Value} {s : Shared} {news : List (Addr × Obj)} {mg mb : Str → Option Value} {mean : ExcName → Option Value}
  {Q E : Value → Shared → Prop}
def frameOk (p h wd : Int) (ps : List Int) (rows : List (Int × Int × Int × Int)) : Bool := (ps.any (· == p)) && ((decide (1 ≤ wd ∧ wd ≤ 65535) && decide (1 ≤ h ∧ h ≤ 65535)) && (rows.all compOk && decide ((rows.map (·.1)).Nodup)))
theorem valueAt_some {kvs : List (Int × Value)} {k : Int} : (valueAt kvs k).isSome = decide (k ∈ kvs.map (·.1)) := by
  induction kvs with
  | nil => simp [valueAt]
  | cons a l ih =>
    unfold valueAt at ih ⊢
    rw [List.find?_cons]
    by_cases h : a.1 = k
    · simp [h]
    · have h' : ¬ k = a.1 := fun e => h e.symm
      simp only [h, decide_false, ih, List.map_cons, List.mem_cons, h', false_or]
theorem frameOk_dup {p h wd : Int} {ps : List Int} {rows : List (Int × Int × Int × Int)} {i : Nat} {q : Int × Int × Int × Int} (hq : rows[i]? = some q) (hm : q.1 ∈ (rows.take i).map (·.1)) : frameOk p h wd ps rows = false := by
  have : ¬ (rows.map (·.1)).Nodup := fun hn => by
    have hi : i < rows.length := by
      rcases Nat.lt_or_ge i rows.length with h | h
      · exact h
      · rw [List.getElem?_eq_none h] at hq; cases hq
    rw [← List.take_append_drop i rows, List.map_append, List.nodup_append] at hn
    refine hn.2.2 q.1 hm q.1 (List.mem_map.mpr ⟨q, ?_, rfl⟩) rfl
    rw [List.getElem?_eq_getElem hi] at hq
    rw [List.drop_eq_getElem_cons hi]
    simp only [Option.some.injEq] at hq
    rw [hq]; exact .head _
  simp [frameOk, this]
theorem frameOk_bad {p h wd : Int} {ps : List Int} {rows : List (Int × Int × Int × Int)} {i : Nat} {q : Int × Int × Int × Int} (hq : rows[i]? = some q) (hb : compOk q = false) : frameOk p h wd ps rows = false := by
  have : rows.all compOk = false := by
    rw [List.all_eq_false]
    exact ⟨q, List.mem_of_getElem? hq, by simp [hb]⟩
  simp [frameOk, this]
theorem take_all {rows : List (Int × Int × Int × Int)} {i : Nat} {q : Int × Int × Int × Int} (hq : rows[i]? = some q) (h : (rows.take i).all compOk = true) (hc : compOk q = true) : (rows.take (i + 1)).all compOk = true := by
  have hi : i < rows.length := by
    rcases Nat.lt_or_ge i rows.length with h | h
    · exact h
    · rw [List.getElem?_eq_none h] at hq; cases hq
  rw [List.getElem?_eq_getElem hi] at hq
  rw [List.take_succ_eq_append_getElem hi, List.all_append, h, Option.some.inj hq]
  simp [hc]
theorem take_ids {rows : List (Int × Int × Int × Int)} {i : Nat} {q : Int × Int × Int × Int} (hq : rows[i]? = some q) : (rows.take (i + 1)).map (·.1) = (rows.take i).map (·.1) ++ [q.1] := by
  have hi : i < rows.length := by
    rcases Nat.lt_or_ge i rows.length with h | h
    · exact h
    · rw [List.getElem?_eq_none h] at hq; cases hq
  rw [List.getElem?_eq_getElem hi] at hq
  rw [List.take_succ_eq_append_getElem hi, List.map_append, Option.some.inj hq]; rfl
local macro_rules | `(tactic| walk_at "subscriptTail") => `(tactic| (k_here; (with_reducible show wpAny _ _ (subscriptTail _ _ (Value.ref _) (Value.int _ _)) _ _ _); k_dflt (refine itemK (by k_asm) (by k_asm) (by assumption) (by omega) (by omega) (by exact rfl) ?_ (by with_unfolding_all rfl))))
local macro_rules | `(tactic| walk_at "compareOp NotIn int ref") => `(tactic| (k_here; (with_reducible show wpAny _ _ (compareOp CmpOp.NotIn (Value.int _ _) (Value.ref _)) _ _ _); k_dflt (refine notin_tuple_ints (kun_topT (by k_asm) (by k_asm) (by assumption)) (by assumption) ?_)))
local macro_rules | `(tactic| walk_at "call ref") => `(tactic| (k_here; (with_reducible show wpAny _ _ (call (Value.ref 179) [Value.str _ _]) _ _ _); k_dflt (refine c_kindRow (by k_asm) (by k_asm) (by k_asm) (by k_asm) (by exact rfl) (by first | exact rfl | assumption) (by first | exact rfl | assumption) (by exact rfl) (by exact Nat.le_of_ble_eq_true rfl) (by exact Nat.le_of_ble_eq_true rfl) (by k_asm) (by assumption) ?_); k_dflt (rintro a h' tk' ⟨p, t1, t2, vs, n1, n2, o1, o2, i1⟩ F' N'); (try k_sweep)))
local macro_rules | `(tactic| walk_at "compareOp In int ref") => `(tactic| (k_here; (with_reducible show wpAny _ _ (compareOp CmpOp.In (Value.int _ _) (Value.ref _)) _ _ _); k_dflt (refine kda_in (knd := intKind _ _) (by k_asm) (by k_mem) (by k_asm) (by k_asm) (intKind_is _ _ _ _) _ rfl ?_)))
local macro_rules | `(tactic| walk_at "setItem ref int") => `(tactic| (k_here; k_dflt (refine' kda_set (knd := intKind _ _) ?F ?N ?U ?d (intKind_is _ _ _ _) ?z ?_; (case F => k_asm); (case N => k_asm); (case U => k_updF); (case d => k_asm); (case z => assumption)); intro h' o' F' N' hd'; (try dsimp only at N'); (try k_sweep)))
local macro_rules | `(tactic| walk_at "exec Raise some none") => `(tactic| (refine Stop.to ?_))
local macro_rules | `(tactic| walk_at "exec For Name Attribute cons nil") => `(tactic| (refine Stop.to ?_))
theorem c_checkFrame {v : Value} {nm : Str} {code p h wd n : Int} {ps : List Int} {lc : Addr} {ys : List Value} {rows : List (Int × Int × Int × Int)}
    (F : Fr h₀ L s.heap m) (B : Below A₀ base outer h₀) (X : (hd.heap_39 w.params).In h₀) (T : Top hd.view_39 (looseW hd.view_39 []) mean mg mb h₀)
    (hA : A.frames = some (env :: outer)) (hf : env.frame = some L) (hke : env.scope.kind = .function) (hh : A.handled = none) (hdp : A.depth ≤ 560) (hun : A.units ≤ 1600)
    (N : News h₀ L s.heap news) (hv : FrameAt w news v nm p h wd lc n) (hk : (code, nm, ps) ∈ kindTab) (hl : ListAt news lc ys) (hr : Paired (CompAt w 102 news) ys rows) (h1 : 1 ≤ rows.length) (h4 : rows.length ≤ 4)
    (hret : ∀ h' tk', frameOk p h wd ps rows = true → Fr h₀ L h' m → News h₀ L h' news → Q .none { s with heap := h', toks := tk' })
    (hraise : ∀ G e h' tk', frameOk p h wd ps rows = false → Fr h₀ L G m → XRaised base G (env :: outer) e 51 news h' → G.UpToSlots h' → E (.ref e) { s with heap := h', toks := tk' }) :
    wpAny (model Challenge.rw_nz0252_01.row.prog w) A (call (.ref 200) [v]) Q E s := by

  obtain ⟨x, dx, k0, t0, k1, t1, k2, t2, k3, t3, k4, k5, t5, rfl, hx, hdx⟩ := hv
  obtain ⟨nl, hl⟩ := hl
  revert X; k_fill; intro X
  refine up hdp hun hh hA ?_
  refine wpAny_call ?_
  k_dflt (refine' code_def (binds := [(Str.ofString "frame", .ref x)]) ?k1 ?k2 ?k3 ?k4 ?k5 ?kA ?kF ?kK ?k6 ?k7 ?k8 ?k9 ?kB ?_ ?c2 ?c3 ?c4 ?c5; (case kA => exact rfl); (case kF => assumption); (case kK => assumption); (case k1 => k_asm); (case k2 => k_asm); (case k3 => k_asm); (case k4 => k_asm); (case k5 => k_asm); (case k6 => k_is); (case k7 => k_is); (case k8 => k_room); (case k9 => exact BindsTo.of_eq rfl); (case c5 => decide); (case kB => exact locs rfl); (case c2 => exact rfl); (case c3 => exact rfl); (case c4 => exact rfl); k_whole; intro g' L' h' FG' F' N' B' X' T'; (try dsimp only); (try k_lift B'); (try k_fold))
  have hly := hr.length
  k_steps
  any_goals
    refine Stop.of ?_
    refine x_raise (by exact rfl) ?_
    k_steps
    refine XMade.intro (.inl rfl) X' (by k_asm) (by k_asm) ?_
    show wpAny _ _ (leaving _ _) _ _ _
    refine leave_x1 (C := 51) B' (by k_asm) (by k_asm) (by assumption) rfl rfl ?_
    intro h' hR hU
    exact hraise _ _ _ _ (by first | (simp [frameOk, *]; done) | (simp [frameOk]; omega)) FG' (by first | exact hR | exact hR.sub fun p hp => List.mem_append_right _ hp | exact hR.sub fun p hp => by (repeat (first | exact hp | refine List.Mem.tail _ ?_))) hU
  refine Stop.of ?_
  rename_i pr _ w1 w2 e1 e2 _ _ dk _ ok l1 lo hs fs hi fi hh F2 N2
  refine for_S (h₀ := g') (l := lc) (vs := ys) (n := nl) (m₀ := fun y => if y = Str.ofString "known" then some (.ref dk) else List.lookup y [(Str.ofString "frame", Value.ref x)].reverse) (news := (dk, ok) :: news) [Str.ofString "component"]
    (fun i n' => ∃ o kvs, n' = (dk, o) :: news ∧ o.IsDictOf (intKind Challenge.rw_nz0252_01.row.prog w) kvs ∧ kvs.map (·.1) = (rows.take i).map (·.1) ∧ ((rows.take i).map (·.1)).Nodup ∧ (rows.take i).all compOk = true) (EndOk.ofNone rfl) ?_ (.tail _ hl) ⟨ok, [], rfl, hi, rfl, by simp, by simp⟩ ?_ ?_
  · k_steps
    all_goals k_asm
  · clear hi fi hs fs N2 F2
    rintro i v u news₁ I it h tk hv hit ⟨o, kvs, rfl, hd, hk, hnd, hall⟩ hm hoff F N
    obtain ⟨q, hq, hc⟩ := paired_at hr hv
    have hc0 := hc
    obtain ⟨x', dx', k0', t0', k1', t1', k2', t2', k3', t3', rfl, hx', hdx'⟩ := hc
    have nI : @Ne Nat dk I := hoff _ (.head _)
    have hsz : kvs.length ≤ sizeLine := by
      have := congrArg List.length hk
      simp at this
      rw [sizeLine_eq]; omega
    k_steps
    refine Stop.of ?_
    refine c_checkComp (by k_asm) (by k_asm) (by k_asm) (by k_asm) (by exact rfl) (by first | exact rfl | assumption) (by first | exact rfl | assumption) (by exact rfl) (by exact Nat.le_of_ble_eq_true rfl) (by exact Nat.le_of_ble_eq_true rfl) (by k_asm) (CompAt.sub hc0 (by intro p hp; k_mem)) ?_ ?_
    · intro h' tk' co F' N'
      (try k_sweep)
      k_steps
      · rename (valueAt _ _).isSome = true => hs2
        rw [valueAt_some, hk] at hs2
        refine Stop.of ?_
        refine x_raise (by exact rfl) ?_
        k_steps
        refine XMade.intro (.inl rfl) X' (by k_asm) (by k_asm) ?_
        show wpAny _ _ (leaving _ _) _ _ _
        refine leave_x1 (C := 51) B' (by k_asm) (by k_asm) (by assumption) rfl rfl ?_
        intro h' hR hU
        exact hraise _ _ _ _ (by exact frameOk_dup hq (of_decide_eq_true hs2)) FG' (by first | exact hR | exact hR.sub fun p hp => List.mem_append_right _ hp | exact hR.sub fun p hp => by (repeat (first | exact hp | refine List.Mem.tail _ ?_))) hU
      · rename (valueAt _ _).isSome = false => hs2
        rw [valueAt_some, hk] at hs2
        have hnot := of_decide_eq_false hs2
        rename News _ _ _ _ => N4
        rename Obj.IsDictOf _ _ _ => D4
        exact ⟨_, _, _, (dk, _) :: news, rfl, by k_asm, List.forall_mem_cons.mpr ⟨N4 _ (by k_mem), List.forall_mem_cons.mpr ⟨N4 _ (by k_mem), fun p hp => N4 p (by repeat (first | exact hp | refine List.Mem.tail _ ?_))⟩⟩,
          List.forall_mem_cons.mpr ⟨nI, fun p hp => hoff p (.tail _ hp)⟩, .tail _ hl, by (repeat (first | exact off_over | refine off_if (by decide) ?_)), _, _, rfl, D4, by rw [stored_keys, take_ids hq, hk, if_neg hnot], by (rw [take_ids hq, List.nodup_append]; exact ⟨hnd, by simp, fun a ha b hb e => by simp at hb; subst hb; exact hnot (e ▸ ha)⟩), take_all hq hall (by assumption)⟩
    · intro G e h' tk' hb FG2 hR hU
      show wpAny _ _ (leaving _ _) _ _ _
      refine leave_x2 (C := 51) B' FG2 hR hU rfl ?_
      intro h'' hR' hU'
      exact hraise _ _ _ _ (frameOk_bad hq hb) FG' (hR'.sub fun p hp => by (repeat (first | exact hp | refine List.Mem.tail _ ?_))) hU'
  · rintro u news₁ h tk ⟨o, kvs, rfl, hd, hk, hnd, hall⟩ F N
    rw [hly, List.take_length] at hk hnd hall
    k_steps
    exact hret _ _ (by simp [frameOk, pr, hall, hnd]; omega) (by k_asm) (fun p hp => by (rename News _ _ _ _ => N4; exact N4 p (.tail _ hp)))
end
end
section
section
variable {w : World} {A A₀ : Around} {base h₀ : Heap} {outer : List Env} {env : Env} {L : Addr} {m : Str → Option Value} {s : Shared} {news : List (Addr × Obj)} {mg mb : Str → Option Value} {mean : ExcName → Option Value}
  {Q E : Value → Shared → Prop}
theorem comps_sub {C : Addr} {a b : List (Addr × Obj)} {ys : List Value} {rows} (h : Paired (CompAt w C a) ys rows) (s : ∀ p ∈ a, p ∈ b) : Paired (CompAt w C b) ys rows := paired_imp (fun _ _ x => x.sub s) h
def headOk (q : Int × Int × Int × Int) (rows : List (Int × Int × Int × Int)) : Bool := match kindOf q.1 with
  | none => false
  | some (_, ps) => frameOk q.2.1 q.2.2.1 q.2.2.2 ps rows
theorem kindOf_mem {c : Int} {nm : Str} {ps : List Int} (h : kindOf c = some (nm, ps)) : (c, nm, ps) ∈ kindTab := by
  unfold kindOf at h
  obtain ⟨r, hr, e⟩ := Option.map_eq_some_iff.mp h
  have h1 := List.mem_of_find?_eq_some hr
  have h2 := List.find?_some hr
  simp at h2
  obtain ⟨a, b⟩ := r
  simp at e h2
  subst e h2
  exact h1
local macro_rules | `(tactic| walk_at "exec Assign cons ListComp") => `(tactic| (refine Stop.to ?_))
theorem c_fromHead {v : Value} {q : Int × Int × Int × Int} {lc : Addr} {ys : List Value} {rows : List (Int × Int × Int × Int)} {n : Int} {tn : Tok}
    (F : Fr h₀ L s.heap m) (B : Below A₀ base outer h₀) (X : (hd.heap_39 w.params).In h₀) (T : Top hd.view_39 (looseW hd.view_39 []) mean mg mb h₀)
    (hA : A.frames = some (env :: outer)) (hf : env.frame = some L) (hke : env.scope.kind = .function) (hh : A.handled = none) (hdp : A.depth ≤ 540) (hun : A.units ≤ 1400)
    (N : News h₀ L s.heap news) (hv : HeadAt w news v q lc) (hl : ListAt news lc ys) (hr : Paired (CompAt w 224 news) ys rows) (h1 : 1 ≤ rows.length) (h4 : rows.length ≤ 4)
    (hret : ∀ v nm ps lc2 ys2 news' h' tk', kindOf q.1 = some (nm, ps) → frameOk q.2.1 q.2.2.1 q.2.2.2 ps rows = true → Fr h₀ L h' m → News h₀ L h' news' → Grows news news' → FrameAt w news' v nm q.2.1 q.2.2.1 q.2.2.2 lc2 (if nm == Str.ofString "lossless" then 1 else n) → ListAt news' lc2 ys2 → Paired (CompAt w 102 news') ys2 rows → Q v { s with heap := h', toks := tk' })
    (hraise : ∀ G e h' tk', headOk q rows = false → Fr h₀ L G m → XRaised base G (env :: outer) e 51 news h' → G.UpToSlots h' → E (.ref e) { s with heap := h', toks := tk' }) :
    wpAny (model Challenge.rw_nz0252_01.row.prog w) A (call (.ref 310) [v, .int n tn]) Q E s := by

  obtain ⟨x, dx, k0, t0, k1, t1, k2, t2, k3, t3, k4, rfl, hx, hdx⟩ := hv
  obtain ⟨nl, hl⟩ := hl
  have hly := hr.length
  revert X; k_fill; intro X
  refine up hdp hun hh hA ?_
  refine wpAny_call ?_
  k_dflt (refine' code_def (binds := [(Str.ofString "head", .ref x), (Str.ofString "n", .int n tn)]) ?k1 ?k2 ?k3 ?k4 ?k5 ?kA ?kF ?kK ?k6 ?k7 ?k8 ?k9 ?kB ?_ ?c2 ?c3 ?c4 ?c5; (case kA => exact rfl); (case kF => assumption); (case kK => assumption); (case k1 => k_asm); (case k2 => k_asm); (case k3 => k_asm); (case k4 => k_asm); (case k5 => k_asm); (case k6 => k_is); (case k7 => k_is); (case k8 => k_room); (case k9 => exact BindsTo.of_eq rfl); (case c5 => decide); (case kB => exact locs rfl); (case c2 => exact rfl); (case c3 => exact rfl); (case c4 => exact rfl); k_whole; intro g' L' h' FG' F' N' B' X' T'; (try dsimp only); (try k_lift B'); (try k_fold))
  k_steps
  refine Stop.of ?_
  refine c_kindOf (by k_asm) (by k_asm) (by k_asm) (by k_asm) (by exact rfl) (by first | exact rfl | assumption) (by first | exact rfl | assumption) (by exact rfl) (by exact Nat.le_of_ble_eq_true rfl) (by exact Nat.le_of_ble_eq_true rfl) (by k_asm) ?_ ?_
  · intro nm ps t h' tk' hko F' N'
    (try k_sweep)
    k_steps
    refine Stop.of ?_
    refine lc_asgF (by k_asm) (ax := lc) (vs := ys) (k := nl) (news := news) (fun i zs n' => Grows news n' ∧ Paired (CompAt w 102 n') zs (rows.take i)) (fun i v m₂ => m₂ (Str.ofString "one") = some v) (EndOk.ofNone rfl) rfl ?_ hl (by rw [sizeLine_eq]; omega) (by with_unfolding_all rfl) (by with_unfolding_all rfl) (by decide) (by rfl) (by decide) (by rfl) (by rfl) ⟨Grows.refl, .nil⟩ ?_ ?_ ?_
    · k_steps
      all_goals k_asm
    · intro i v ys news' C m₀ s Q E' hv hJ F N hns hoff hCL hC₀ h
      exact asg_name hns rfl rfl h
    · intro i v zs news₁ I oI C oC D m₂ h tk E' hv ⟨hg, hp⟩ hm' hC hone F N off ne
      obtain ⟨qi, hqi, x', dx', k0', t0', k1', t1', k2', t2', k3', t3', rfl, hx', hdx'⟩ := paired_at hr hv
      have hx2 := hg _ hx'
      have hdx2 := hg _ hdx'
      k_steps
      rename News _ _ _ _ => N4
      exact LCg.CompEnd.intro (by k_asm) N4 ((_, instObj 102 _) :: (_, dictOf [_, _, _, _] _) :: news₁)
        (List.forall_mem_cons.mpr ⟨by k_mem, List.forall_mem_cons.mpr ⟨by k_mem, List.forall_mem_cons.mpr ⟨by k_mem, List.forall_mem_cons.mpr ⟨by exact .head _, List.forall_mem_cons.mpr ⟨by exact .tail _ (.head _), fun p hp => by repeat (first | exact hp | refine List.Mem.tail _ ?_)⟩⟩⟩⟩⟩)
        ⟨⟨by k_ne, by k_ne, by k_ne⟩, ⟨by k_ne, by k_ne, by k_ne⟩, off⟩ (.tail _ (.tail _ hm')) ⟨hg.cons.cons, paired_take (paired_imp (fun _ _ x => x.sub fun _ h => .tail _ (.tail _ h)) hp) hqi (CompAt.mk (.head _) (.tail _ (.head _)))⟩
    · intro D zs news' h tk ⟨hg, hp⟩ F N hoff
      have hx2 := hg _ hx
      have hdx2 := hg _ hdx
      rw [hly, List.take_length] at hp
      k_steps
      all_goals
        refine Stop.of ?_
        refine c_checkFrame (by k_asm) (by k_asm) (by k_asm) (by k_asm) (by exact rfl) (by first | exact rfl | assumption) (by first | exact rfl | assumption) (by exact rfl) (by exact Nat.le_of_ble_eq_true rfl) (by exact Nat.le_of_ble_eq_true rfl) (by k_asm) ⟨_, _, _, _, _, _, _, _, _, _, _, _, _, rfl, by k_mem, by k_mem⟩ (kindOf_mem hko) ⟨_, by k_mem⟩ (comps_sub hp (by intro p hp; k_mem)) (by assumption) (by assumption) ?_ ?_
        · intro h' tk' co F' N'
          (try k_sweep)
          k_steps
          rename (_ == Str.ofString "lossless") = _ => hb1
          exact hret _ _ _ D zs _ _ _ hko (by assumption) (by k_asm) (by k_asm) (Grows.cons (Grows.cons hg.cons)) ⟨_, _, _, _, _, _, _, _, _, _, _, _, _, rfl, .head _, by (first | rw [if_pos hb1] | rw [if_neg (by rw [hb1]; decide)]); exact .tail _ (.head _)⟩ ⟨_, .tail _ (.tail _ (.head _))⟩ (comps_sub hp fun p hp => .tail _ (.tail _ (.tail _ hp)))
        ·
          refine Stop.to ?_
          refine Stop.of ?_
          intro G e h' tk' hb FG2 hR hU
          show wpAny _ _ (leaving _ _) _ _ _
          refine leave_x2 (C := 51) B' FG2 hR hU rfl ?_
          intro h'' hR' hU'
          exact hraise _ _ _ _ (by simp [headOk, hko, hb]) FG' (by first | exact hR' | exact hR'.sub fun p hp => by (have hz := hg p hp; repeat (first | exact hz | refine List.Mem.tail _ ?_)) | exact hR'.sub fun p hp => by (repeat (first | exact hp | refine List.Mem.tail _ ?_))) hU'

  ·
    refine Stop.to ?_
    refine Stop.of ?_
    intro G e h' tk' hb FG2 hR hU
    show wpAny _ _ (leaving _ _) _ _ _
    refine leave_x2 (C := 51) B' FG2 hR hU rfl ?_
    intro h'' hR' hU'
    exact hraise _ _ _ _ (by simp [headOk, hb]) FG' (by first | exact hR' | exact hR'.sub fun p hp => by (have hz := hg p hp; repeat (first | exact hz | refine List.Mem.tail _ ?_)) | exact hR'.sub fun p hp => by (repeat (first | exact hp | refine List.Mem.tail _ ?_))) hU'
end
end
section
section
variable {w : World} {A A₀ : Around} {base h₀ : Heap} {outer : List Env} {env : Env} {L : Addr} {m : Str → Option Value} {s : Shared} {news : List (Addr × Obj)} {mg mb : Str → Option Value} {mean : ExcName → Option Value}
  {Q E : Value → Shared → Prop}
local macro_rules | `(tactic| walk_at "eval ListComp") => `(tactic| (refine Stop.to ?_))
theorem c_lawRows102 {lc : Addr} {ys : List Value} {rows : List (Int × Int × Int × Int)} {nl : Nat}
    (F : Fr h₀ L s.heap m) (B : Below A₀ base outer h₀) (X : (hd.heap_39 w.params).In h₀) (T : Top hd.view_39 (looseW hd.view_39 []) mean mg mb h₀)
    (hA : A.frames = some (env :: outer)) (hf : env.frame = some L) (hke : env.scope.kind = .function) (hh : A.handled = none) (hdp : A.depth ≤ 580) (hun : A.units ≤ 1800)
    (N : News h₀ L s.heap news) (hl : (lc, listOf (List.toArray ys) nl) ∈ news) (hr : Paired (CompAt w 102 news) ys rows) (h4 : rows.length ≤ 4)
    (hret : ∀ D zs news' h' tk', Fr h₀ L h' m → News h₀ L h' news' → Grows news news' → ListAt news' D zs → Paired (RowAt news') zs rows → Q (.ref D) { s with heap := h', toks := tk' }) :
    wpAny (model Challenge.rw_nz0252_01.row.prog w) A (call (.ref 377) [.ref lc]) Q E s := by

  have hly := hr.length
  revert X; k_fill; intro X
  refine up hdp hun hh hA ?_
  refine wpAny_call ?_
  k_dflt (refine' code_def (binds := [(Str.ofString "some", .ref lc)]) ?k1 ?k2 ?k3 ?k4 ?k5 ?kA ?kF ?kK ?k6 ?k7 ?k8 ?k9 ?kB ?_ ?c2 ?c3 ?c4 ?c5; (case kA => exact rfl); (case kF => assumption); (case kK => assumption); (case k1 => k_asm); (case k2 => k_asm); (case k3 => k_asm); (case k4 => k_asm); (case k5 => k_asm); (case k6 => k_is); (case k7 => k_is); (case k8 => k_room); (case k9 => exact BindsTo.of_eq rfl); (case c5 => decide); (case kB => exact locs rfl); (case c2 => exact rfl); (case c3 => exact rfl); (case c4 => exact rfl); k_whole; intro g' L' h' FG' F' N' B' X' T'; (try dsimp only); (try k_lift B'); (try k_fold))
  k_steps
  refine Stop.of ?_
  refine lc_evalF (by k_asm) (ax := lc) (vs := ys) (k := nl) (news := news) (fun i zs n' => Grows news n' ∧ Paired (RowAt n') zs (rows.take i)) (fun i v m₂ => m₂ (Str.ofString "one") = some v) (EndOk.ofNone rfl) ?_ hl (by rw [sizeLine_eq]; omega) (by with_unfolding_all rfl) (by decide) (by rfl) (by decide) ⟨Grows.refl, .nil⟩ ?_ ?_ ?_
  · k_steps
    all_goals k_asm
  · intro i v ys news' C m₀ s Q E' hv hJ F N hns hoff hCL hC₀ h
    exact asg_name hns rfl rfl h
  · intro i v zs news₁ I oI C oC D m₂ h tk E' hv ⟨hg, hp⟩ hm' hC hone F N off ne
    obtain ⟨qi, hqi, x', dx', k0', t0', k1', t1', k2', t2', k3', t3', rfl, hx', hdx'⟩ := paired_at hr hv
    have hx2 := hg _ hx'
    have hdx2 := hg _ hdx'
    k_steps
    rename News _ _ _ _ => N4
    exact LCg.CompEnd.intro (by k_asm) N4 ((_, listOf #[_, _, _, _] _) :: news₁)
      (List.forall_mem_cons.mpr ⟨by k_mem, List.forall_mem_cons.mpr ⟨by k_mem, List.forall_mem_cons.mpr ⟨by k_mem, List.forall_mem_cons.mpr ⟨by exact .head _, fun p hp => by repeat (first | exact hp | refine List.Mem.tail _ ?_)⟩⟩⟩⟩)
      ⟨⟨by k_ne, by k_ne, by k_ne⟩, off⟩ (.tail _ hm') ⟨hg.cons, paired_take (paired_imp (fun _ _ x => x.sub fun _ h => .tail _ h) hp) hqi RowAt.here⟩
  · intro D zs news' h tk ⟨hg, hp⟩ F N hoff
    rw [hly, List.take_length] at hp
    k_steps
    exact hret D zs _ _ _ (by k_asm) (by k_asm) hg.cons ⟨_, .head _⟩ (paired_imp (fun _ _ x => x.sub fun _ h => .tail _ h) hp)
theorem c_lawRows224 {lc : Addr} {ys : List Value} {rows : List (Int × Int × Int × Int)} {nl : Nat}
    (F : Fr h₀ L s.heap m) (B : Below A₀ base outer h₀) (X : (hd.heap_39 w.params).In h₀) (T : Top hd.view_39 (looseW hd.view_39 []) mean mg mb h₀)
    (hA : A.frames = some (env :: outer)) (hf : env.frame = some L) (hke : env.scope.kind = .function) (hh : A.handled = none) (hdp : A.depth ≤ 580) (hun : A.units ≤ 1800)
    (N : News h₀ L s.heap news) (hl : (lc, listOf (List.toArray ys) nl) ∈ news) (hr : Paired (CompAt w 224 news) ys rows) (h4 : rows.length ≤ 4)
    (hret : ∀ D zs news' h' tk', Fr h₀ L h' m → News h₀ L h' news' → Grows news news' → ListAt news' D zs → Paired (RowAt news') zs rows → Q (.ref D) { s with heap := h', toks := tk' }) :
    wpAny (model Challenge.rw_nz0252_01.row.prog w) A (call (.ref 377) [.ref lc]) Q E s := by

  have hly := hr.length
  revert X; k_fill; intro X
  refine up hdp hun hh hA ?_
  refine wpAny_call ?_
  k_dflt (refine' code_def (binds := [(Str.ofString "some", .ref lc)]) ?k1 ?k2 ?k3 ?k4 ?k5 ?kA ?kF ?kK ?k6 ?k7 ?k8 ?k9 ?kB ?_ ?c2 ?c3 ?c4 ?c5; (case kA => exact rfl); (case kF => assumption); (case kK => assumption); (case k1 => k_asm); (case k2 => k_asm); (case k3 => k_asm); (case k4 => k_asm); (case k5 => k_asm); (case k6 => k_is); (case k7 => k_is); (case k8 => k_room); (case k9 => exact BindsTo.of_eq rfl); (case c5 => decide); (case kB => exact locs rfl); (case c2 => exact rfl); (case c3 => exact rfl); (case c4 => exact rfl); k_whole; intro g' L' h' FG' F' N' B' X' T'; (try dsimp only); (try k_lift B'); (try k_fold))
  k_steps
  refine Stop.of ?_
  refine lc_evalF (by k_asm) (ax := lc) (vs := ys) (k := nl) (news := news) (fun i zs n' => Grows news n' ∧ Paired (RowAt n') zs (rows.take i)) (fun i v m₂ => m₂ (Str.ofString "one") = some v) (EndOk.ofNone rfl) ?_ hl (by rw [sizeLine_eq]; omega) (by with_unfolding_all rfl) (by decide) (by rfl) (by decide) ⟨Grows.refl, .nil⟩ ?_ ?_ ?_
  · k_steps
    all_goals k_asm
  · intro i v ys news' C m₀ s Q E' hv hJ F N hns hoff hCL hC₀ h
    exact asg_name hns rfl rfl h
  · intro i v zs news₁ I oI C oC D m₂ h tk E' hv ⟨hg, hp⟩ hm' hC hone F N off ne
    obtain ⟨qi, hqi, x', dx', k0', t0', k1', t1', k2', t2', k3', t3', rfl, hx', hdx'⟩ := paired_at hr hv
    have hx2 := hg _ hx'
    have hdx2 := hg _ hdx'
    k_steps
    rename News _ _ _ _ => N4
    exact LCg.CompEnd.intro (by k_asm) N4 ((_, listOf #[_, _, _, _] _) :: news₁)
      (List.forall_mem_cons.mpr ⟨by k_mem, List.forall_mem_cons.mpr ⟨by k_mem, List.forall_mem_cons.mpr ⟨by k_mem, List.forall_mem_cons.mpr ⟨by exact .head _, fun p hp => by repeat (first | exact hp | refine List.Mem.tail _ ?_)⟩⟩⟩⟩)
      ⟨⟨by k_ne, by k_ne, by k_ne⟩, off⟩ (.tail _ hm') ⟨hg.cons, paired_take (paired_imp (fun _ _ x => x.sub fun _ h => .tail _ h) hp) hqi RowAt.here⟩
  · intro D zs news' h tk ⟨hg, hp⟩ F N hoff
    rw [hly, List.take_length] at hp
    k_steps
    exact hret D zs _ _ _ (by k_asm) (by k_asm) hg.cons ⟨_, .head _⟩ (paired_imp (fun _ _ x => x.sub fun _ h => .tail _ h) hp)
end
end
section
section
variable {w : World} {A A₀ : Around} {base h₀ : Heap} {outer : List Env} {env : Env} {L : Addr} {m : Str → Option Value} {s : Shared} {news : List (Addr × Obj)} {mg mb : Str → Option Value} {mean : ExcName → Option Value}
  {Q E : Value → Shared → Prop}
local macro_rules | `(tactic| walk_at "subscriptTail") => `(tactic| (k_here; (with_reducible show wpAny _ _ (subscriptTail _ _ (Value.ref _) (Value.int _ _)) _ _ _); k_dflt (refine itemK (by k_asm) (by k_asm) (by assumption) (by omega) (by omega) (by exact rfl) ?_ (by with_unfolding_all rfl))))
local macro_rules | `(tactic| walk_at "compareOp NotIn int ref") => `(tactic| (k_here; (with_reducible show wpAny _ _ (compareOp CmpOp.NotIn (Value.int _ _) (Value.ref _)) _ _ _); k_dflt (refine notin_tuple_ints (kun_topT (by k_asm) (by k_asm) (by assumption)) (by assumption) ?_)))
local macro_rules | `(tactic| walk_at "call ref") => `(tactic| (k_here; (with_reducible show wpAny _ _ (call (Value.ref 179) [Value.str _ _]) _ _ _); k_dflt (refine c_kindRow (by k_asm) (by k_asm) (by k_asm) (by k_asm) (by exact rfl) (by first | exact rfl | assumption) (by first | exact rfl | assumption) (by exact rfl) (by exact Nat.le_of_ble_eq_true rfl) (by exact Nat.le_of_ble_eq_true rfl) (by k_asm) (by assumption) ?_); k_dflt (rintro a h' tk' ⟨p, t1, t2, vs, n1, n2, o1, o2, i1⟩ F' N'); (try k_sweep)))
local macro_rules | `(tactic| walk_at "exec Assign cons ListComp") => `(tactic| (refine Stop.to ?_))
theorem c_toHead {v : Value} {nm : Str} {code p h wd n : Int} {ps : List Int} {lc : Addr} {ys : List Value} {rows : List (Int × Int × Int × Int)}
    (F : Fr h₀ L s.heap m) (B : Below A₀ base outer h₀) (X : (hd.heap_39 w.params).In h₀) (T : Top hd.view_39 (looseW hd.view_39 []) mean mg mb h₀)
    (hA : A.frames = some (env :: outer)) (hf : env.frame = some L) (hke : env.scope.kind = .function) (hh : A.handled = none) (hdp : A.depth ≤ 560) (hun : A.units ≤ 1600)
    (N : News h₀ L s.heap news) (hv : FrameAt w news v nm p h wd lc n) (hk : (code, nm, ps) ∈ kindTab) (hl : ListAt news lc ys) (hr : Paired (CompAt w 102 news) ys rows) (h4 : rows.length ≤ 4)
    (hret : ∀ v lc2 zs news' h' tk', Fr h₀ L h' m → News h₀ L h' news' → Grows news news' → HeadAt w news' v (code, p, h, wd) lc2 → ListAt news' lc2 zs → Paired (CompAt w 224 news') zs rows → Q v { s with heap := h', toks := tk' }) :
    wpAny (model Challenge.rw_nz0252_01.row.prog w) A (call (.ref 315) [v]) Q E s := by

  obtain ⟨x, dx, k0, t0, k1, t1, k2, t2, k3, t3, k4, k5, t5, rfl, hx, hdx⟩ := hv
  obtain ⟨nl, hl⟩ := hl
  have hly := hr.length
  revert X; k_fill; intro X
  refine up hdp hun hh hA ?_
  refine wpAny_call ?_
  k_dflt (refine' code_def (binds := [(Str.ofString "frame", .ref x)]) ?k1 ?k2 ?k3 ?k4 ?k5 ?kA ?kF ?kK ?k6 ?k7 ?k8 ?k9 ?kB ?_ ?c2 ?c3 ?c4 ?c5; (case kA => exact rfl); (case kF => assumption); (case kK => assumption); (case k1 => k_asm); (case k2 => k_asm); (case k3 => k_asm); (case k4 => k_asm); (case k5 => k_asm); (case k6 => k_is); (case k7 => k_is); (case k8 => k_room); (case k9 => exact BindsTo.of_eq rfl); (case c5 => decide); (case kB => exact locs rfl); (case c2 => exact rfl); (case c3 => exact rfl); (case c4 => exact rfl); k_whole; intro g' L' h' FG' F' N' B' X' T'; (try dsimp only); (try k_lift B'); (try k_fold))
  k_steps
  refine Stop.of ?_
  refine lc_asgF (by k_asm) (ax := lc) (vs := ys) (k := nl) (news := news) (fun i zs n' => Grows news n' ∧ Paired (CompAt w 224 n') zs (rows.take i)) (fun i v m₂ => m₂ (Str.ofString "one") = some v) (EndOk.ofNone rfl) rfl ?_ hl (by rw [sizeLine_eq]; omega) (by with_unfolding_all rfl) (by with_unfolding_all rfl) (by decide) (by rfl) (by decide) (by rfl) (by rfl) ⟨Grows.refl, .nil⟩ ?_ ?_ ?_
  · k_steps
    all_goals k_asm
  · intro i v ys news' C m₀ s Q E' hv hJ F N hns hoff hCL hC₀ h
    exact asg_name hns rfl rfl h
  · intro i v zs news₁ I oI C oC D m₂ h tk E' hv ⟨hg, hp⟩ hm' hC hone F N off ne
    obtain ⟨qi, hqi, x', dx', k0', t0', k1', t1', k2', t2', k3', t3', rfl, hx', hdx'⟩ := paired_at hr hv
    have hx2 := hg _ hx'
    have hdx2 := hg _ hdx'
    k_steps
    rename News _ _ _ _ => N4
    exact LCg.CompEnd.intro (by k_asm) N4 ((_, instObj 224 _) :: (_, dictOf [_, _, _, _] _) :: news₁)
      (List.forall_mem_cons.mpr ⟨by k_mem, List.forall_mem_cons.mpr ⟨by k_mem, List.forall_mem_cons.mpr ⟨by k_mem, List.forall_mem_cons.mpr ⟨by exact .head _, List.forall_mem_cons.mpr ⟨by exact .tail _ (.head _), fun p hp => by repeat (first | exact hp | refine List.Mem.tail _ ?_)⟩⟩⟩⟩⟩)
      ⟨⟨by k_ne, by k_ne, by k_ne⟩, ⟨by k_ne, by k_ne, by k_ne⟩, off⟩ (.tail _ (.tail _ hm')) ⟨hg.cons.cons, paired_take (paired_imp (fun _ _ x => x.sub fun _ h => .tail _ (.tail _ h)) hp) hqi (CompAt.mk (.head _) (.tail _ (.head _)))⟩
  · intro D zs news' h tk ⟨hg, hp⟩ F N hoff
    have hx2 := hg _ hx
    have hdx2 := hg _ hdx
    rw [hly, List.take_length] at hp
    k_steps
    exact hret _ D zs _ _ _ (by k_asm) (by k_asm) (Grows.cons (Grows.cons hg.cons)) ⟨_, _, _, _, _, _, _, _, _, _, _, rfl, .head _, .tail _ (.head _)⟩ ⟨_, .tail _ (.tail _ (.head _))⟩ (comps_sub hp fun p hp => .tail _ (.tail _ (.tail _ hp)))
end
end
section
section
variable {w : World} {A A₀ : Around} {base h₀ : Heap} {outer : List Env} {env : Env} {L : Addr} {m : Str → Option Value} {s : Shared} {news : List (Addr × Obj)} {mg mb : Str → Option Value} {mean : ExcName → Option Value}
  {Q E : Value → Shared → Prop}
theorem kinds_find {kvs : List (Int × Value)} {tab : List (Int × Str × List Int)} (h : Paired (RowK news) kvs tab) (c : Int) :
    match tab.find? (fun r => decide (r.1 = c)) with
    | none => kvs.find? (fun kv => decide (kv.1 = c)) = none
    | some r => ∃ kv, kvs.find? (fun kv => decide (kv.1 = c)) = some kv ∧ RowK news kv r := by
  induction h with
  | nil => rfl
  | @cons a b l₁ l₂ hr _ ih =>
    have e := hr.1
    rw [List.find?_cons, List.find?_cons, e]
    by_cases hc : b.1 = c
    · simp only [hc, decide_true]
      exact ⟨a, rfl, hr⟩
    · simp only [hc, decide_false]
      exact ih
theorem kinds_none {kvs : List (Int × Value)} {c : Int} (h : Paired (RowK news) kvs kindTab) (hk : kindOf c = none) : (valueAt kvs c).isSome = false := by
  have := kinds_find h c
  unfold kindOf at hk
  rw [Option.map_eq_none_iff] at hk
  rw [hk] at this
  simp [valueAt, this]
theorem kinds_some {kvs : List (Int × Value)} {c : Int} {nm : Str} {ps : List Int} (h : Paired (RowK news) kvs kindTab) (hk : kindOf c = some (nm, ps)) :
    ∃ a t p n n' vs, valueAt kvs c = some (.ref a) ∧ (a, listOf #[.str nm t, .ref p] n) ∈ news ∧ (p, listOf (List.toArray vs) n') ∈ news ∧ IntsAre vs ps := by
  have := kinds_find h c
  unfold kindOf at hk
  obtain ⟨r, hr, e⟩ := Option.map_eq_some_iff.mp hk
  rw [hr] at this
  obtain ⟨kv, e1, e2, a, t, p, n, n', vs, e3, e4, e5, e6⟩ := this
  obtain ⟨c', nm', ps'⟩ := r
  simp at e
  obtain ⟨rfl, rfl⟩ := e
  exact ⟨a, t, p, n, n', vs, by simp [valueAt, e1, e3], e4, e5, e6⟩
local macro_rules | `(tactic| walk_at "exec For") => `(tactic| (refine Stop.to ?_))
local macro_rules | `(tactic| walk_at "eval ListComp") => `(tactic| (refine Stop.to ?_))
local macro_rules | `(tactic| walk_at "compareOp NotIn int ref") => `(tactic| (k_here; (with_reducible show wpAny _ _ (compareOp CmpOp.NotIn (Value.int _ _) (Value.ref _)) _ _ _); k_dflt (first
  | refine kdg_notin (knd := intKind _ _) (by k_asm) (by k_mem) (by k_asm) (by k_asm) (intKind_is _ _ _ _) true (by assumption) ?_
  | refine kdg_notin (knd := intKind _ _) (by k_asm) (by k_mem) (by k_asm) (by k_asm) (intKind_is _ _ _ _) false (by assumption) ?_); (try dsimp only [Bool.not_true, Bool.not_false])))
local macro_rules | `(tactic| walk_at "subscriptTail") => `(tactic| (k_here; (with_reducible show wpAny _ _ (subscriptTail _ _ (Value.ref _) (Value.int _ _)) _ _ _); k_dflt (refine kda_item (knd := intKind _ _) (by k_asm) (by k_mem) (by k_asm) (intKind_is _ _ _ _) (by assumption) ?_)))
local macro_rules | `(tactic| walk_at "compareOp NotIn int ref") => `(tactic| (k_here; (with_reducible show wpAny _ _ (compareOp CmpOp.NotIn (Value.int _ _) (Value.ref _)) _ _ _); k_dflt (refine notin_list_ints (News.isList (by k_asm) (by k_mem)) (by first | assumption | l_ints) ?_)))
local macro_rules | `(tactic| walk_at "assign Tuple") => `(tactic| (k_here; (with_reducible show wpAny _ _ (assign (Expr.Tuple _ _ _) _ (Value.ref _)) _ _ _); k_dflt (refine' unpE (EndOk.ofAny ?H) ?F ?N ?M ?k5 ?k6 ?_; (case F => k_asm); (case H => assumption); (case N => k_asm); (case M => k_mem); (case k5 => exact rfl); (case k6 => exact rfl)); intro h' he' F' N'; (try k_sweep)))
theorem any14 {a : Int} : ([1, 2, 3, 4].any fun x => x == a) = decide (1 ≤ a ∧ a ≤ 4) := by
  by_cases h : 1 ≤ a ∧ a ≤ 4
  · obtain rfl | rfl | rfl | rfl : a = 1 ∨ a = 2 ∨ a = 3 ∨ a = 4 := by omega
    all_goals rfl
  · rw [decide_eq_false h]; simp; omega
theorem any03 {a : Int} : ([0, 1, 2, 3].any fun x => x == a) = decide (0 ≤ a ∧ a ≤ 3) := by
  by_cases h : 0 ≤ a ∧ a ≤ 3
  · obtain rfl | rfl | rfl | rfl : a = 0 ∨ a = 1 ∨ a = 2 ∨ a = 3 := by omega
    all_goals rfl
  · rw [decide_eq_false h]; simp; omega
theorem headOk_bad {q : Int × Int × Int × Int} {rows : List (Int × Int × Int × Int)} {i : Nat} {qi : Int × Int × Int × Int} (hq : rows[i]? = some qi) (hb : compOk qi = false) : headOk q rows = false := by
  unfold headOk
  split
  · rfl
  · exact frameOk_bad hq hb
def PairAt (news : List (Addr × Obj)) (v : Value) (x : Int) : Prop := ∃ t tx y n, v = .ref t ∧ (t, tupOf #[.int x tx, y] n) ∈ news
theorem PairAt.sub {a b : List (Addr × Obj)} {v : Value} {x : Int} (h : PairAt a v x) (s : ∀ p ∈ a, p ∈ b) : PairAt b v x := let ⟨t, tx, y, n, e, m⟩ := h; ⟨t, tx, y, n, e, s _ m⟩
theorem pairs_of {vs : List Value} {ids : List Int} (h : Paired (PairAt news) vs ids) : PairsAt news vs ids :=
  ⟨h.length, fun i hi => by
    obtain ⟨v, hv, t, tx, y, n, rfl, hm⟩ := paired_at2 h (List.getElem?_eq_getElem hi)
    exact ⟨t, tx, y, n, hv, hm⟩⟩
local macro_rules | `(tactic| walk_at "call type:dict") => `(tactic| (k_here; (with_reducible show wpAny _ _ (call (Value.type "dict") [Value.ref _]) _ _ _); k_dflt (refine' c_dictP ?H ?F ?N ?M ?P ?z (modules_low (Top.nolimit ?T)) ?_; (case F => k_asm); (case H => assumption); (case N => k_asm); (case M => k_mem); (case P => assumption); (case z => assumption); (case T => k_asm)); intro d o kvs h' tk' F' N' ne hd hlen lo; (try k_sweep)))
local macro_rules | `(tactic| walk_at "call builtin:len") => `(tactic| (k_here; (with_reducible show wpAny _ _ (call (Value.builtin "len") [Value.ref _]) _ _ _); k_dflt (refine len_dictL (by k_asm) (by k_mem) (by assumption) (by assumption) (by omega) ?_); intro t' tk'))
theorem c_isLet {lf lm : Addr} {q : Int × Int × Int × Int} {vs : List Value} {nm nf : Nat} {f0 f1 f2 f3 : Tok} {rows : List (Int × Int × Int × Int)}
    (F : Fr h₀ L s.heap m) (B : Below A₀ base outer h₀) (X : (hd.heap_39 w.params).In h₀) (T : Top hd.view_39 (looseW hd.view_39 []) mean mg mb h₀)
    (hA : A.frames = some (env :: outer)) (hf : env.frame = some L) (hke : env.scope.kind = .function) (hS : HS A s.heap news) (hdp : A.depth ≤ 580) (hun : A.units ≤ 1800)
    (N : News h₀ L s.heap news) (hf4 : (lf, listOf #[.int q.1 f0, .int q.2.1 f1, .int q.2.2.1 f2, .int q.2.2.2 f3] nf) ∈ news) (hm : (lm, listOf (List.toArray vs) nm) ∈ news) (hr : Paired (RowAt news) vs rows) (h4 : rows.length ≤ 4)
    (hret : ∀ news' h' tk', Fr h₀ L h' m → News h₀ L h' news' → Grows news news' → Q (.bool (headOk q rows)) { s with heap := h', toks := tk' }) :
    wpAny (model Challenge.rw_nz0252_01.row.prog w) A (call (.ref 367) [.ref lf, .ref lm]) Q E s := by

  have hlv := hr.length
  revert X; k_fill; intro X
  refine up hdp hun rfl hA ?_
  refine wpAny_call ?_
  k_dflt (refine' code_defH (binds := [(Str.ofString "first", .ref lf), (Str.ofString "members", .ref lm)]) hS ?k1 ?k2 ?k3 ?k4 ?k5 ?kA ?kF ?kK ?k6 ?k7 ?k8 ?k9 ?kB ?_ ?c2 ?c3 ?c4 ?c5; (case kA => exact rfl); (case kF => assumption); (case kK => assumption); (case k1 => k_asm); (case k2 => k_asm); (case k3 => k_asm); (case k4 => k_asm); (case k5 => k_asm); (case k6 => k_is); (case k7 => k_is); (case k8 => k_room); (case k9 => exact BindsTo.of_eq rfl); (case c5 => decide); (case kB => exact locs rfl); (case c2 => exact rfl); (case c3 => exact rfl); (case c4 => exact rfl); k_whole; intro g' L' h' HG' FG' F' N' B' X' T'; (try dsimp only); (try k_lift B'); (try k_fold))
  k_steps
  refine Stop.of ?_
  refine c_kinds (by k_asm) (by k_asm) (by k_asm) (by k_asm) (by exact rfl) (by first | exact rfl | assumption) (by first | exact rfl | assumption) (by first | exact HS.ofNone rfl | exact HS.ofAny (by assumption) (by k_asm) (by k_asm)) (by exact Nat.le_of_ble_eq_true rfl) (by exact Nat.le_of_ble_eq_true rfl) (by k_asm) ?_
  rintro d news' h' tk' F' N' ⟨o, kvs, hmd, hd, lo, hp⟩ hg
  have hf5 := hg _ hf4
  have hm5 := hg _ hm
  cases hko : kindOf q.1 with
  | none =>
    have hno := kinds_none hp hko
    have e : headOk q rows = false := by simp [headOk, hko]
    k_steps
    rw [← e]
    exact hret _ _ _ (by k_asm) (by k_asm) hg
  | some r =>
    obtain ⟨kn, ps⟩ := r
    obtain ⟨a, t, p, n, n', zs, hva, hma, hmp, hi⟩ := kinds_some hp hko
    have hse : (valueAt kvs q.1).isSome = true := by rw [hva]; rfl
    k_steps
    any_goals
      have e : headOk q rows = false := by first | (simp [headOk, hko, frameOk, *]; done) | (simp [headOk, hko, frameOk]; omega)
      rw [← e]
      exact hret _ _ _ (by k_asm) (by k_asm) hg
    refine Stop.of ?_
    refine for_S (h₀ := g') (l := lm) (vs := vs) (n := nm) (m₀ := fun y => if y = Str.ofString "kinds" then some (.ref d) else List.lookup y [(Str.ofString "first", Value.ref lf), (Str.ofString "members", Value.ref lm)].reverse) (news := news') [Str.ofString "ident", Str.ofString "across", Str.ofString "down", Str.ofString "slot"]
      (fun i n' => Grows news' n' ∧ (rows.take i).all compOk = true) (EndOk.ofAny HG') ?_ hm5 ⟨Grows.refl, by simp⟩ ?_ ?_
    · k_steps
      all_goals k_asm
    · rintro i v u news₁ I it h tk hv hit ⟨hg1, hall⟩ hm6 hoff F N
      obtain ⟨qi, hqi, x', t0', t1', t2', t3', n', rfl, hx'⟩ := paired_at hr hv
      have hx2 := hg1 _ (hg _ hx')
      k_steps
      all_goals simp only [any14, any03, decide_eq_true_eq, decide_eq_false_iff_not] at *
      · have hc : compOk qi = true := by simp [compOk]; omega
        exact ⟨_, _, _, news₁, rfl, by k_asm, by (rename News _ _ _ _ => N4; exact List.forall_mem_cons.mpr ⟨N4 _ (by k_mem), fun p hp => N4 p (by repeat (first | exact hp | refine List.Mem.tail _ ?_))⟩), hoff, hm6, by (repeat (first | exact off_over | refine off_if (by decide) ?_)), hg1, take_all hqi hall hc⟩
      all_goals
        have hc : compOk qi = false := by simp [compOk]; omega
        rw [← headOk_bad (q := q) hqi hc]
        exact hret _ _ _ (by k_asm) (by k_asm) fun p hp => by (have hz := hg1 p (hg p hp); repeat (first | exact hz | refine List.Mem.tail _ ?_))
    · rintro u news₁ h tk ⟨hg1, hall⟩ F N
      rw [hlv, List.take_length] at hall
      have hm6 := hg1 _ hm5
      k_steps
      refine Stop.of ?_
      refine lc_evalF (by k_asm) (ax := lm) (vs := vs) (k := nm) (news := news₁) (fun i zs n' => Grows news₁ n' ∧ Paired (PairAt n') zs ((rows.map (·.1)).take i)) (fun i v m₂ => m₂ (Str.ofString "part") = some v) (EndOk.ofAny HG') ?_ hm6 (by rw [sizeLine_eq]; omega) (by with_unfolding_all rfl) (by decide) (by rfl) (by decide) ⟨Grows.refl, .nil⟩ ?_ ?_ ?_
      · k_steps
        all_goals k_asm
      · intro i v ys news' C m₀ s Q E' hv hJ F N hns hoff hCL hC₀ h
        exact asg_name hns rfl rfl h
      · intro i v zs news₂ I oI C oC D m₂ h tk E' hv ⟨hg2, hp2⟩ hm' hC hone F N off ne
        obtain ⟨qi, hqi, x', t0', t1', t2', t3', n', rfl, hx'⟩ := paired_at hr hv
        have hx2 := hg2 _ (hg1 _ (hg _ hx'))
        k_steps
        rename News _ _ _ _ => N4
        have hqi2 : (rows.map (·.1))[i]? = some qi.1 := by rw [List.getElem?_map, hqi]; rfl
        exact LCg.CompEnd.intro (by k_asm) N4 ((_, tupOf #[_, _] _) :: news₂)
          (List.forall_mem_cons.mpr ⟨by k_mem, List.forall_mem_cons.mpr ⟨by k_mem, List.forall_mem_cons.mpr ⟨by k_mem, List.forall_mem_cons.mpr ⟨by exact .head _, fun p hp => by repeat (first | exact hp | refine List.Mem.tail _ ?_)⟩⟩⟩⟩)
          ⟨⟨by k_ne, by k_ne, by k_ne⟩, off⟩ (.tail _ hm') ⟨hg2.cons, paired_take (paired_imp (fun _ _ x => x.sub fun _ h => .tail _ h) hp2) hqi2 ⟨_, _, _, _, rfl, .head _⟩⟩
      · intro D zs news₂ h tk ⟨hg2, hp2⟩ F N hoff
        rw [hlv, ← List.length_map (f := fun r : Int × Int × Int × Int => r.1), List.take_length] at hp2
        have hm7 := hg2 _ hm6
        have hps := pairs_of (paired_imp (fun _ _ x => PairAt.sub (b := (D, listOf zs.toArray zs.length) :: news₂) x fun _ h => .tail _ h) hp2)
        have hzl := hp2.length
        rw [List.length_map] at hzl
        have hzs : zs.length ≤ sizeLine := by rw [sizeLine_eq]; omega
        obtain ⟨-, -, hk1, hk2⟩ := keysOf_spec (rows.map (·.1))
        rw [List.length_map] at hk1 hk2
        k_steps
        rename _ = (keysOf _).length => hkv
        have e1 : headOk q rows = decide ((rows.map (·.1)).Nodup) := by simp [headOk, hko, frameOk, *]
        have e2 : (((keysOf (rows.map (·.1))).length : Int) == (vs.length : Int)) = headOk q rows := by
          rw [e1, Bool.eq_iff_iff, decide_eq_true_iff, beq_iff_eq, ← hk2, hlv]
          omega
        rw [hkv, e2]
        exact hret _ _ _ (by k_asm) (by k_asm) fun p hp => by (have hz := hg2 p (hg1 p (hg p hp)); repeat (first | exact hz | refine List.Mem.tail _ ?_))
end
end
section
section
variable {w : World} {A A₀ : Around} {base h₀ : Heap} {outer : List Env} {env : Env} {L : Addr} {m : Str → Option Value} {s : Shared} {news : List (Addr × Obj)} {mg mb : Str → Option Value} {mean : ExcName → Option Value}
  {Q E : Value → Shared → Prop}
def rdat (q : Int × Int × Int × Int) : PyData := .list [.int q.1, .int q.2.1, .int q.2.2.1, .int q.2.2.2]
theorem reads_rows {h : Heap} (N : News h₀ L h news) : ∀ {vs : List Value} {rows : List (Int × Int × Int × Int)}, Paired (RowAt news) vs rows → ∃ as, ReadsAll h vs (rows.map rdat) as
  | _, _, .nil => ⟨_, .nil⟩
  | _, _, .cons (b := q) ⟨l, t0, t1, t2, t3, n, e, hm⟩ r => by
    obtain ⟨as, ih⟩ := reads_rows N r
    subst e
    exact ⟨_, .cons (reads_list_at (N _ hm).1 rfl rfl (.cons (Reads.int _ _) (.cons (Reads.int _ _) (.cons (Reads.int _ _) (.cons (Reads.int _ _) .nil))))) ih⟩
theorem rows_lay (rows : List (Int × Int × Int × Int)) : PyData.canLayAll0 (rows.map rdat) = true ∧ PyData.depthAll (rows.map rdat) ≤ 1 := by
  induction rows with
  | nil => exact ⟨rfl, Nat.zero_le _⟩
  | cons q r ih => exact ⟨by simp [PyData.canLayAll0, rdat, PyData.canLay0, ih.1], by simp [PyData.depthAll, rdat, PyData.depth]; exact Nat.max_le.mpr ⟨Nat.le_refl _, ih.2⟩⟩
theorem rows_shaped (rows : List (Int × Int × Int × Int)) : SeqAt.shaped (.list (rows.map rdat)) = true := by
  obtain ⟨a, b⟩ := rows_lay rows
  simp [SeqAt.shaped, PyData.canLay0, a, PyData.depth]
  omega
theorem rows_eqv (rows : List (Int × Int × Int × Int)) : PyData.eqv (.list (rows.map rdat)) (.list (rows.map rdat)) = true := by
  have : PyData.eqvAll (rows.map rdat) (rows.map rdat) = true := by
    induction rows with
    | nil => simp [PyData.eqvAll]
    | cons q r ih => simp [PyData.eqvAll, rdat, PyData.eqv, ih]
  simpa [PyData.eqv] using this
theorem ne_rows {prog : Program} {a b : Addr} {va vb : List Value} {na nb : Nat} {rows : List (Int × Int × Int × Int)} (N : News h₀ L s.heap news) (ha : (a, listOf (List.toArray va) na) ∈ news) (pa : Paired (RowAt news) va rows) (hb : (b, listOf (List.toArray vb) nb) ∈ news) (pb : Paired (RowAt news) vb rows) (hu : A.units + 64 < cLine)
    (h : Q (.bool false) s) : wpAny (model prog w) A (compareOp .NotEq (.ref a) (.ref b)) Q E s := by
  obtain ⟨as, ra⟩ := reads_rows N pa
  obtain ⟨bs, rb⟩ := reads_rows N pb
  refine ne_dataH (reads_list_at (N _ ha).1 rfl rfl ra) (reads_list_at (N _ hb).1 rfl rfl rb) (rows_shaped _) (rows_shaped _) hu ?_
  rw [rows_eqv]; exact h
theorem eq_rows {prog : Program} {a b : Addr} {va vb : List Value} {na nb : Nat} {rows : List (Int × Int × Int × Int)} (N : News h₀ L s.heap news) (ha : (a, listOf (List.toArray va) na) ∈ news) (pa : Paired (RowAt news) va rows) (hb : (b, listOf (List.toArray vb) nb) ∈ news) (pb : Paired (RowAt news) vb rows) (hu : A.units + 64 < cLine)
    (h : Q (.bool true) s) : wpAny (model prog w) A (compareOp .Eq (.ref a) (.ref b)) Q E s := by
  obtain ⟨as, ra⟩ := reads_rows N pa
  obtain ⟨bs, rb⟩ := reads_rows N pb
  refine eq_dataH (reads_list_at (N _ ha).1 rfl rfl ra) (reads_list_at (N _ hb).1 rfl rfl rb) (rows_shaped _) (rows_shaped _) hu ?_
  rw [rows_eqv]; exact h
end
end
section
theorem kf_of {zs : List Value} {ns : List Int} (h : IntsAre zs ns) : kf_ints zs = true := by
  induction h with
  | nil => rfl
  | cons a t _ ih => exact ih
theorem kf_at_of {zs : List Value} {ns : List Int} {x : Int} (h : IntsAre zs ns) (hx : x ∈ ns) : kf_at x zs = some (ns.idxOf x) := by
  induction h with
  | nil => cases hx
  | @cons a t vs ns _ ih =>
    unfold kf_at
    by_cases e : a = x
    · subst e
      have : isInt a (.int a t) = true := by simp [isInt]
      rw [this]
      simp [List.idxOf_cons]
    · have h1 : isInt x (.int a t) = false := by simp [isInt]; first | exact e | exact Ne.symm e
      have h2 : x ∈ ns := (List.mem_cons.mp hx).resolve_left (Ne.symm e)
      rw [h1, ih h2, List.idxOf_cons]
      have h3 : (a == x) = false := by simpa using e
      simp [h3]
end
section
section
variable {w : World} {A A₀ : Around} {base h₀ : Heap} {outer : List Env} {env : Env} {L : Addr} {m : Str → Option Value} {s : Shared} {news : List (Addr × Obj)} {mg mb : Str → Option Value} {mean : ExcName → Option Value}
  {Q E : Value → Shared → Prop}
theorem ints_reads {h : Heap} : ∀ {vs : List Value} {ns : List Int}, IntsAre vs ns → ∃ as, ReadsAll h vs (ns.map PyData.int) as
  | _, _, .nil => ⟨_, .nil⟩
  | _, _, .cons a t r => by
    obtain ⟨as, ih⟩ := ints_reads (h := h) r
    exact ⟨_, .cons (Reads.int _ _) ih⟩
theorem ints_lay (ns : List Int) : PyData.canLayAll0 (ns.map PyData.int) = true ∧ PyData.depthAll (ns.map PyData.int) ≤ 0 := by
  induction ns with
  | nil => exact ⟨rfl, Nat.le_refl _⟩
  | cons q r ih => exact ⟨by simp [PyData.canLayAll0, PyData.canLay0, ih.1], by simp [PyData.depthAll, PyData.depth]; exact Nat.le_zero.mp ih.2⟩
theorem ints_eqv (ns : List Int) : PyData.eqvAll (ns.map PyData.int) (ns.map PyData.int) = true := by
  induction ns with
  | nil => simp [PyData.eqvAll]
  | cons q r ih => simp [PyData.eqvAll, PyData.eqv, ih]
def tdat (ids bs cs : List Int) (r : Int × Int × Int × Int) : PyData := .list [.list (ids.map .int), .list (bs.map .int), .list (cs.map .int), .int r.1, .int r.2.1, .int r.2.2.1, .int r.2.2.2]
theorem tdat_shaped (ids bs cs : List Int) (r : Int × Int × Int × Int) : SeqAt.shaped (tdat ids bs cs r) = true := by
  obtain ⟨a, b⟩ := ints_lay ids
  obtain ⟨c, d⟩ := ints_lay bs
  obtain ⟨e, f⟩ := ints_lay cs
  simp [tdat, SeqAt.shaped, PyData.canLay0, PyData.canLayAll0, a, c, e, PyData.depth, PyData.depthAll]
  omega
theorem tdat_eqv (ids bs cs : List Int) (r : Int × Int × Int × Int) : PyData.eqv (tdat ids bs cs r) (tdat ids bs cs r) = true := by
  simp [tdat, PyData.eqv, PyData.eqvAll, ints_eqv]
theorem told_reads {D la lb lc : Addr} {n na nb nc : Nat} {r : Int × Int × Int × Int} {u0 u1 u2 u3 : Tok} {va vb vc : List Value} {ids bs cs : List Int} {h : Heap} (N : News h₀ L h news) (hD : (D, listOf #[.ref la, .ref lb, .ref lc, .int r.1 u0, .int r.2.1 u1, .int r.2.2.1 u2, .int r.2.2.2 u3] n) ∈ news)
    (ha : (la, listOf (List.toArray va) na) ∈ news) (hb : (lb, listOf (List.toArray vb) nb) ∈ news) (hc : (lc, listOf (List.toArray vc) nc) ∈ news) (hi : IntsAre va ids) (hj : IntsAre vb bs) (hk : IntsAre vc cs) : ∃ as, Reads h (.ref D) (tdat ids bs cs r) as := by
  obtain ⟨as, ra⟩ := ints_reads (h := h) hi
  obtain ⟨bs, rb⟩ := ints_reads (h := h) hj
  obtain ⟨cs, rc⟩ := ints_reads (h := h) hk
  exact ⟨_, reads_list_at (N _ hD).1 rfl rfl (.cons (reads_list_at (N _ ha).1 rfl rfl ra) (.cons (reads_list_at (N _ hb).1 rfl rfl rb) (.cons (reads_list_at (N _ hc).1 rfl rfl rc) (.cons (Reads.int _ _) (.cons (Reads.int _ _) (.cons (Reads.int _ _) (.cons (Reads.int _ _) .nil)))))))⟩
theorem ne_told {prog : Program} {D D' : Addr} {ids bs cs : List Int} {r : Int × Int × Int × Int} (ra : ∃ as, Reads s.heap (.ref D) (tdat ids bs cs r) as) (rb : ∃ as, Reads s.heap (.ref D') (tdat ids bs cs r) as) (hu : A.units + 64 < cLine)
    (h : Q (.bool false) s) : wpAny (model prog w) A (compareOp .NotEq (.ref D) (.ref D')) Q E s := by
  obtain ⟨as, ra⟩ := ra
  obtain ⟨bs, rb⟩ := rb
  refine ne_dataH ra rb (tdat_shaped _ _ _ _) (tdat_shaped _ _ _ _) hu ?_
  rw [tdat_eqv]; exact h
theorem eq_told {prog : Program} {D D' : Addr} {ids bs cs : List Int} {r : Int × Int × Int × Int} (ra : ∃ as, Reads s.heap (.ref D) (tdat ids bs cs r) as) (rb : ∃ as, Reads s.heap (.ref D') (tdat ids bs cs r) as) (hu : A.units + 64 < cLine)
    (h : Q (.bool true) s) : wpAny (model prog w) A (compareOp .Eq (.ref D) (.ref D')) Q E s := by
  obtain ⟨as, ra⟩ := ra
  obtain ⟨bs, rb⟩ := rb
  refine eq_dataH ra rb (tdat_shaped _ _ _ _) (tdat_shaped _ _ _ _) hu ?_
  rw [tdat_eqv]; exact h
end
end
section
section
variable {w : World} {A A₀ : Around} {base h₀ : Heap} {outer : List Env} {env : Env} {L : Addr} {m : Str → Option Value} {s : Shared} {news : List (Addr × Obj)} {mg mb : Str → Option Value} {mean : ExcName → Option Value}
  {Q E : Value → Shared → Prop}
local macro_rules | `(tactic| walk_at "subscriptTail") => `(tactic| (k_here; (with_reducible show wpAny _ _ (subscriptTail _ _ (Value.ref _) (Value.int _ _)) _ _ _); k_dflt (refine kda_item (knd := intKind _ _) (by k_asm) (by k_mem) (by k_asm) (intKind_is _ _ _ _) (by assumption) ?_)))
theorem kind_less {c : Int} {nm : Str} {ps : List Int} (h : kindOf c = some (nm, ps)) : (nm == Str.ofString "lossless") = decide (c = 195) := by
  have hm := kindOf_mem h
  simp only [kindTab, List.mem_cons, Prod.mk.injEq, List.not_mem_nil, or_false] at hm
  rcases hm with ⟨rfl, e, rfl⟩ | ⟨rfl, e, rfl⟩ | ⟨rfl, e, rfl⟩ | ⟨rfl, e, rfl⟩ | ⟨rfl, e, rfl⟩ | ⟨rfl, e, rfl⟩ <;> subst e <;> decide
local macro_rules | `(tactic| walk_at "compareOp NotEq ref ref") => `(tactic| (k_here; (with_reducible show wpAny _ _ (compareOp CmpOp.NotEq (Value.ref _) (Value.ref _)) _ _ _); k_dflt (refine ne_rows (by k_asm) (by k_mem) (by assumption) (by k_mem) (by assumption) (by ke_room) ?_)))
local macro_rules | `(tactic| walk_at "compareOp Eq ref ref") => `(tactic| (k_here; (with_reducible show wpAny _ _ (compareOp CmpOp.Eq (Value.ref _) (Value.ref _)) _ _ _); k_dflt (refine eq_rows (by k_asm) (by k_mem) (by assumption) (by k_mem) (by assumption) (by ke_room) ?_)))
local macro_rules | `(tactic| walk_at "exec If") => `(tactic| (refine Stop.to ?_))
/-- the same frame and ledger, at another heap -/
inductive Same (s : Shared) (g' : Heap) (L' : Addr) (m' : Str → Option Value) (news : List (Addr × Obj)) (s' : Shared) : Prop
  | mk (h : Heap) (tk : Nat) (e : s' = { s with heap := h, toks := tk }) (F : Fr g' L' h m') (N : News g' L' h news) : Same s g' L' m' news s'
theorem c_frameRight {v : Value} {nm : Str} {ps : List Int} {lc lf lm : Addr} {ys : List Value} {q : Int × Int × Int × Int} {vs : List Value} {nl nf : Nat} {f0 f1 f2 f3 ts : Tok} {rows : List (Int × Int × Int × Int)} {side : Int}
    (F : Fr h₀ L s.heap m) (B : Below A₀ base outer h₀) (X : (hd.heap_39 w.params).In h₀) (T : Top hd.view_39 (looseW hd.view_39 []) mean mg mb h₀)
    (hA : A.frames = some (env :: outer)) (hf : env.frame = some L) (hke : env.scope.kind = .function) (hh : A.handled = none) (hdp : A.depth ≤ 540) (hun : A.units ≤ 1400)
    (N : News h₀ L s.heap news) (hv : FrameAt w news v nm q.2.1 q.2.2.1 q.2.2.2 lc (if nm == Str.ofString "lossless" then 1 else side)) (hk : kindOf q.1 = some (nm, ps)) (hl : ListAt news lc ys) (hr : Paired (CompAt w 102 news) ys rows)
    (hf4 : (lf, listOf #[.int q.1 f0, .int q.2.1 f1, .int q.2.2.1 f2, .int q.2.2.2 f3] nf) ∈ news) (hm : (lm, listOf (List.toArray vs) nl) ∈ news) (hp : Paired (RowAt news) vs rows) (h4 : rows.length ≤ 4)
    (hret : ∀ news' h' tk', Fr h₀ L h' m → News h₀ L h' news' → Grows news news' → Q (.bool true) { s with heap := h', toks := tk' }) :
    wpAny (model Challenge.rw_nz0252_01.row.prog w) A (call (.ref 384) [v, .ref lf, .ref lm, .int side ts]) Q E s := by

  obtain ⟨x, dx, k0, t0, k1, t1, k2, t2, k3, t3, k4, k5, t5, rfl, hx, hdx⟩ := hv
  obtain ⟨nc, hl⟩ := hl
  revert X; k_fill; intro X
  refine up hdp hun hh hA ?_
  refine wpAny_call ?_
  k_dflt (refine' code_def (binds := [(Str.ofString "frame", .ref x), (Str.ofString "first", .ref lf), (Str.ofString "members", .ref lm), (Str.ofString "side", .int side ts)]) ?k1 ?k2 ?k3 ?k4 ?k5 ?kA ?kF ?kK ?k6 ?k7 ?k8 ?k9 ?kB ?_ ?c2 ?c3 ?c4 ?c5; (case kA => exact rfl); (case kF => assumption); (case kK => assumption); (case k1 => k_asm); (case k2 => k_asm); (case k3 => k_asm); (case k4 => k_asm); (case k5 => k_asm); (case k6 => k_is); (case k7 => k_is); (case k8 => k_room); (case k9 => exact BindsTo.of_eq rfl); (case c5 => decide); (case kB => exact locs rfl); (case c2 => exact rfl); (case c3 => exact rfl); (case c4 => exact rfl); k_whole; intro g' L' h' FG' F' N' B' X' T'; (try dsimp only); (try k_lift B'); (try k_fold))
  k_steps
  refine Stop.of ?_
  refine join (Same s g' L' (fun y => List.lookup y [(Str.ofString "frame", Value.ref x), (Str.ofString "first", Value.ref lf), (Str.ofString "members", Value.ref lm), (Str.ofString "side", Value.int side ts)].reverse) news) ?_ ?_
  · refine wpAny_If ?_
    k_steps
    refine Stop.of ?_
    refine' c_kinds (by k_asm) (by k_asm) (by k_asm) (by k_asm) (by exact rfl) (by exact rfl) (by exact rfl) ?hS (by exact Nat.le_of_ble_eq_true rfl) (by exact Nat.le_of_ble_eq_true rfl) (by k_asm) ?_
    case hS => exact HS.ofNone rfl
    rintro d n1 h' tk' F' N' ⟨o, kvs, hmd, hd, lo, hkk⟩ g1
    obtain ⟨a, t, p, n, n', zs, hva, hma, hmp, hi⟩ := kinds_some hkk hk
    have hf5 := g1 _ hf4
    have hx5 := g1 _ hx
    have hdx5 := g1 _ hdx
    rw [kind_less hk] at hdx5
    by_cases h195 : q.1 = 195
    all_goals
      simp only [h195, decide_true, decide_false, if_true, Bool.false_eq_true, if_false] at hdx5
      k_steps
      any_goals (exfalso; first | (simp_all; done) | omega)
      rename News _ _ _ _ => N4
      exact Stop.of ⟨rfl, _, _, rfl, by k_asm, fun p hp => N4 p (g1 p hp)⟩
  · rintro s' ⟨h', tk', rfl, F', N'⟩
    dsimp only
    k_steps
    refine Stop.of ?_
    refine wpAny_If ?_
    k_steps
    refine Stop.of ?_
    refine c_lawRows102 (by k_asm) (by k_asm) (by k_asm) (by k_asm) (by exact rfl) (by first | exact rfl | assumption) (by first | exact rfl | assumption) (by exact rfl) (by exact Nat.le_of_ble_eq_true rfl) (by exact Nat.le_of_ble_eq_true rfl) (by k_asm) (by k_mem) (comps_sub hr (by intro p hp; k_mem)) h4 ?_
    rintro D zs n2 h2 tk2 F2 N2 g2 ⟨nD, hD⟩ hpz
    have g12 : Grows news n2 := fun p hp => g2 p (by repeat (first | exact hp | refine List.Mem.tail _ ?_))
    have hf5 := g12 _ hf4
    have hm6 := g12 _ hm
    have hp6 : Paired (RowAt n2) vs rows := paired_imp (fun _ _ x => x.sub fun p hp => g12 p hp) hp
    have hx6 := g12 _ hx
    have hdx6 := g12 _ hdx
    k_steps
    refine Stop.of ?_
    refine c_toHead (by k_asm) (by k_asm) (by k_asm) (by k_asm) (by exact rfl) (by first | exact rfl | assumption) (by first | exact rfl | assumption) (by exact rfl) (by exact Nat.le_of_ble_eq_true rfl) (by exact Nat.le_of_ble_eq_true rfl) (by k_asm) ⟨_, _, _, _, _, _, _, _, _, _, _, _, _, rfl, hx6, hdx6⟩ (kindOf_mem hk) ⟨_, g12 _ hl⟩ (comps_sub hr g12) h4 ?_
    rintro v lc2 ws n3 h3 tk3 F3 N3 g3 ⟨x3, dx3, c0, u0, c1, u1, c2, u2, c3, u3, c4, rfl, hx3, hdx3⟩ ⟨n4, hl3⟩ hc3
    have hf7 := g3 _ hf5
    have hm7 := g3 _ hm6
    k_steps
    refine Stop.of ?_
    refine c_lawRows224 (by k_asm) (by k_asm) (by k_asm) (by k_asm) (by exact rfl) (by first | exact rfl | assumption) (by first | exact rfl | assumption) (by exact rfl) (by exact Nat.le_of_ble_eq_true rfl) (by exact Nat.le_of_ble_eq_true rfl) (by k_asm) (by k_mem) (comps_sub hc3 (by intro p hp; k_mem)) h4 ?_
    rintro D2 zs2 n5 h5 tk5 F5 N5 g5 ⟨nD2, hD2⟩ hpz2
    have g35 : Grows n3 n5 := fun p hp => g5 p (by repeat (first | exact hp | refine List.Mem.tail _ ?_))
    have hm8 := g35 _ hm7
    have hp8 : Paired (RowAt n5) vs rows := paired_imp (fun _ _ x => x.sub fun p hp => g35 p (g3 p hp)) hp6
    k_steps
    exact hret _ _ _ (by k_asm) (by k_asm) fun p hp => g35 p (g3 p (g12 p hp))
end
end
section
section
variable {w : World} {A A₀ : Around} {base h₀ : Heap} {outer : List Env} {env : Env} {L : Addr} {m : Str → Option Value} {s : Shared} {news : List (Addr × Obj)} {mg mb : Str → Option Value} {mean : ExcName → Option Value}
  {Q E : Value → Shared → Prop}
inductive ScanAt (w : World) (C : Addr) (key : String) (news : List (Addr × Obj)) (v : Value) (la lb lc : Addr) (r : Int × Int × Int × Int) : Prop
  | mk' (x dx : Addr) (k0 k1 k2 k3 k4 k5 k6 u0 u1 u2 u3 : Tok) (e : v = .ref x) (h1 : (x, instObj C dx) ∈ news)
    (h2 : (dx, dictOf [ent w key k0 (.ref la), ent w "dc_slots" k1 (.ref lb), ent w "ac_slots" k2 (.ref lc), ent w "start" k3 (.int r.1 u0), ent w "end" k4 (.int r.2.1 u1), ent w "high" k5 (.int r.2.2.1 u2), ent w "low" k6 (.int r.2.2.2 u3)] 7) ∈ news) : ScanAt w C key news v la lb lc r
theorem ScanAt.sub {C : Addr} {key : String} {a b : List (Addr × Obj)} {v : Value} {la lb lc : Addr} {r} (h : ScanAt w C key a v la lb lc r) (s : ∀ p ∈ a, p ∈ b) : ScanAt w C key b v la lb lc r :=
  let ⟨x, dx, k0, k1, k2, k3, k4, k5, k6, u0, u1, u2, u3, e, h1, h2⟩ := h; ⟨x, dx, k0, k1, k2, k3, k4, k5, k6, u0, u1, u2, u3, e, s _ h1, s _ h2⟩
theorem c_scanHead {lr la lb lc : Addr} {r : Int × Int × Int × Int} {u0 u1 u2 u3 : Tok} {n na nb nc : Nat} {va vb vc : List Value}
    (F : Fr h₀ L s.heap m) (B : Below A₀ base outer h₀) (X : (hd.heap_39 w.params).In h₀) (T : Top hd.view_39 (looseW hd.view_39 []) mean mg mb h₀)
    (hA : A.frames = some (env :: outer)) (hf : env.frame = some L) (hke : env.scope.kind = .function) (hh : A.handled = none) (hdp : A.depth ≤ 590) (hun : A.units ≤ 1900)
    (N : News h₀ L s.heap news) (hm : (lr, listOf #[.ref la, .ref lb, .ref lc, .int r.1 u0, .int r.2.1 u1, .int r.2.2.1 u2, .int r.2.2.2 u3] n) ∈ news)
    (ha : (la, listOf (List.toArray va) na) ∈ news) (hb : (lb, listOf (List.toArray vb) nb) ∈ news) (hc : (lc, listOf (List.toArray vc) nc) ∈ news) (za : va.length ≤ 4) (zb : vb.length ≤ 4) (zc : vc.length ≤ 4)
    (hret : ∀ v la2 lb2 lc2 news' h' tk', Fr h₀ L h' m → News h₀ L h' news' → Grows news news' → ScanAt w 266 "idents" news' v la2 lb2 lc2 r → ListAt news' la2 va → ListAt news' lb2 vb → ListAt news' lc2 vc → Q v { s with heap := h', toks := tk' }) :
    wpAny (model Challenge.rw_nz0252_01.row.prog w) A (call (.ref 396) [.ref lr]) Q E s := by

  revert X; k_fill; intro X
  refine up hdp hun hh hA ?_
  refine wpAny_call ?_
  k_dflt (refine' code_def (binds := [(Str.ofString "rows", .ref lr)]) ?k1 ?k2 ?k3 ?k4 ?k5 ?kA ?kF ?kK ?k6 ?k7 ?k8 ?k9 ?kB ?_ ?c2 ?c3 ?c4 ?c5; (case kA => exact rfl); (case kF => assumption); (case kK => assumption); (case k1 => k_asm); (case k2 => k_asm); (case k3 => k_asm); (case k4 => k_asm); (case k5 => k_asm); (case k6 => k_is); (case k7 => k_is); (case k8 => k_room); (case k9 => exact BindsTo.of_eq rfl); (case c5 => decide); (case kB => exact locs rfl); (case c2 => exact rfl); (case c3 => exact rfl); (case c4 => exact rfl); k_whole; intro g' L' h' FG' F' N' B' X' T'; (try dsimp only); (try k_lift B'); (try k_fold))
  k_steps
  exact hret _ _ _ _ _ _ _ (by k_asm) (by k_asm) (Grows.cons (Grows.cons (Grows.cons (Grows.cons (Grows.cons Grows.refl))))) ⟨_, _, _, _, _, _, _, _, _, _, _, _, _, rfl, .head _, .tail _ (.head _)⟩ ⟨_, by k_mem⟩ ⟨_, by k_mem⟩ ⟨_, by k_mem⟩
def cTold : Unit := ()
end
end
section
section
variable {w : World} {A A₀ : Around} {base h₀ : Heap} {outer : List Env} {env : Env} {L : Addr} {m : Str → Option Value} {s : Shared} {news : List (Addr × Obj)} {mg mb : Str → Option Value} {mean : ExcName → Option Value}
  {Q E : Value → Shared → Prop}
theorem c_told {v : Value} {la lb lc : Addr} {r : Int × Int × Int × Int} {va vb vc : List Value}
    (F : Fr h₀ L s.heap m) (B : Below A₀ base outer h₀) (X : (hd.heap_39 w.params).In h₀) (T : Top hd.view_39 (looseW hd.view_39 []) mean mg mb h₀)
    (hA : A.frames = some (env :: outer)) (hf : env.frame = some L) (hke : env.scope.kind = .function) (hh : A.handled = none) (hdp : A.depth ≤ 590) (hun : A.units ≤ 1900)
    (N : News h₀ L s.heap news) (hv : ScanAt w 266 "idents" news v la lb lc r)
    (ha : ListAt news la va) (hb : ListAt news lb vb) (hc : ListAt news lc vc) (za : va.length ≤ 4) (zb : vb.length ≤ 4) (zc : vc.length ≤ 4)
    (hret : ∀ D la2 lb2 lc2 n u0 u1 u2 u3 news' h' tk', Fr h₀ L h' m → News h₀ L h' news' → Grows news news' → (D, listOf #[.ref la2, .ref lb2, .ref lc2, .int r.1 u0, .int r.2.1 u1, .int r.2.2.1 u2, .int r.2.2.2 u3] n) ∈ news' → ListAt news' la2 va → ListAt news' lb2 vb → ListAt news' lc2 vc → Q (.ref D) { s with heap := h', toks := tk' }) :
    wpAny (model Challenge.rw_nz0252_01.row.prog w) A (call (.ref 403) [v]) Q E s := by

  obtain ⟨x, dx, k0, k1, k2, k3, k4, k5, k6, u0, u1, u2, u3, rfl, hx, hdx⟩ := hv
  obtain ⟨na, ha⟩ := ha
  obtain ⟨nb, hb⟩ := hb
  obtain ⟨nc, hc⟩ := hc
  revert X; k_fill; intro X
  refine up hdp hun hh hA ?_
  refine wpAny_call ?_
  k_dflt (refine' code_def (binds := [(Str.ofString "head", .ref x)]) ?k1 ?k2 ?k3 ?k4 ?k5 ?kA ?kF ?kK ?k6 ?k7 ?k8 ?k9 ?kB ?_ ?c2 ?c3 ?c4 ?c5; (case kA => exact rfl); (case kF => assumption); (case kK => assumption); (case k1 => k_asm); (case k2 => k_asm); (case k3 => k_asm); (case k4 => k_asm); (case k5 => k_asm); (case k6 => k_is); (case k7 => k_is); (case k8 => k_room); (case k9 => exact BindsTo.of_eq rfl); (case c5 => decide); (case kB => exact locs rfl); (case c2 => exact rfl); (case c3 => exact rfl); (case c4 => exact rfl); k_whole; intro g' L' h' FG' F' N' B' X' T'; (try dsimp only); (try k_lift B'); (try k_fold))
  k_steps
  exact hret _ _ _ _ _ _ _ _ _ _ _ _ (by k_asm) (by k_asm) (Grows.cons (Grows.cons (Grows.cons (Grows.cons Grows.refl)))) (.head _) ⟨_, by k_mem⟩ ⟨_, by k_mem⟩ ⟨_, by k_mem⟩
local macro_rules | `(tactic| walk_at "exec For Name Call cons nil") => `(tactic| (refine Stop.to ?_))
local macro_rules | `(tactic| walk_at "pyIter ref") => `(tactic| ((with_reducible show wpAny _ _ (pyIter (Value.ref _)) (fun it s₂ => LoopAtV _ _ _ _ _ _ _ _ _ it s₂) _ _); refine Stop.to ?_))
theorem c_placeOf {v : Value} {nm : Str} {p h wd n x : Int} {tx : Tok} {lc : Addr} {ys : List Value} {rows : List (Int × Int × Int × Int)}
    (F : Fr h₀ L s.heap m) (B : Below A₀ base outer h₀) (X : (hd.heap_39 w.params).In h₀) (T : Top hd.view_39 (looseW hd.view_39 []) mean mg mb h₀)
    (hA : A.frames = some (env :: outer)) (hf : env.frame = some L) (hke : env.scope.kind = .function) (hh : A.handled = none) (hdp : A.depth ≤ 580) (hun : A.units ≤ 1800)
    (N : News h₀ L s.heap news) (hv : FrameAt w news v nm p h wd lc n) (hl : ListAt news lc ys) (hr : Paired (CompAt w 102 news) ys rows) (h4 : rows.length ≤ 4)
    (hsome : ∀ (i : Nat) t news' h' tk', (∃ q, rows[i]? = some q ∧ q.1 = x) → (∀ j q, j < i → rows[j]? = some q → q.1 ≠ x) → Fr h₀ L h' m → News h₀ L h' news' → Grows news news' → Q (.int i t) { s with heap := h', toks := tk' })
    (hnone : ∀ news' h' tk', (∀ q ∈ rows, q.1 ≠ x) → Fr h₀ L h' m → News h₀ L h' news' → Grows news news' → Q .none { s with heap := h', toks := tk' }) :
    wpAny (model Challenge.rw_nz0252_01.row.prog w) A (call (.ref 207) [v, .int x tx]) Q E s := by

  obtain ⟨xv, dx, k0, t0, k1, t1, k2, t2, k3, t3, k4, k5, t5, rfl, hx, hdx⟩ := hv
  obtain ⟨nl, hl⟩ := hl
  have hly := hr.length
  have hB : Stop (ys.length ≤ 4 ∧ ys.length = rows.length) := ⟨by omega, hly⟩
  have h9 : ys.length ≤ 1000 := by omega
  clear h4 hly
  revert X; k_fill; intro X
  refine up hdp hun hh hA ?_
  refine wpAny_call ?_
  k_dflt (refine' code_def (binds := [(Str.ofString "frame", .ref xv), (Str.ofString "ident", .int x tx)]) ?k1 ?k2 ?k3 ?k4 ?k5 ?kA ?kF ?kK ?k6 ?k7 ?k8 ?k9 ?kB ?_ ?c2 ?c3 ?c4 ?c5; (case kA => exact rfl); (case kF => assumption); (case kK => assumption); (case k1 => k_asm); (case k2 => k_asm); (case k3 => k_asm); (case k4 => k_asm); (case k5 => k_asm); (case k6 => k_is); (case k7 => k_is); (case k8 => k_room); (case k9 => exact BindsTo.of_eq rfl); (case c5 => decide); (case kB => exact locs rfl); (case c2 => exact rfl); (case c3 => exact rfl); (case c4 => exact rfl); k_whole; intro g' L' h' FG' F' N' B' X' T'; (try dsimp only); (try k_lift B'); (try k_fold))
  k_steps
  refine Stop.of ?_
  (rename Fr _ _ _ _ => lF'); (with_unfolding_all refine' For_invVF lF' ?k1 ?k2 ?_; (case k1 => exact rfl); (case k2 => exact rfl))
  k_steps
  refine Stop.of ?_
  rename_i hh2 tk2 u1 u2 u3 rg F3 N3 keep
  obtain ⟨hl4, hly⟩ : ys.length ≤ 4 ∧ ys.length = rows.length := hB
  refine iter_R (r := _) (n := ys.length) (news := news) [Str.ofString "place"] (fun i n' => Grows news n' ∧ ∀ j q, j < i → rows[j]? = some q → q.1 ≠ x) (by exact rfl) rg (rn_small hl4) (rn_size hl4) F3 N3 ⟨Grows.refl, fun _ _ h => absurd h (Nat.not_lt_zero _)⟩ rfl ?_ ?_
  · rintro i t u news₁ I it h tk hi ⟨hg, hno⟩ hoff F N
    obtain ⟨q, hq, hc⟩ := paired_at hr (List.getElem?_eq_getElem hi)
    obtain ⟨x', dx', k0', t0', k1', t1', k2', t2', k3', t3', hv', hx', hdx'⟩ := hc
    have hx2 := hg _ hx'
    have hdx2 := hg _ hdx'
    have hx3 := hg _ hx
    have hdx3 := hg _ hdx
    have hl3 := hg _ hl
    have hsub : ys[(0 + (i : Int)).toNat]? = some (.ref x') := by simp [hi, hv']
    have h00 : (0 : Int) ≤ 0 + (i : Int) := by omega
    k_steps
    · rw [Int.zero_add]
      exact hsome _ _ _ _ _ ⟨q, hq, by assumption⟩ hno (by k_asm) (by k_asm) (fun p hp => by (have hz := hg p hp; repeat (first | exact hz | refine List.Mem.tail _ ?_)))
    · rename _ ≠ x => hne
      exact ⟨_, _, _, news₁, rfl, by k_asm, by k_asm, hoff, by (repeat (first | exact off_over | refine off_if (by decide) ?_)), hg, fun j qj hj hqj => by
        rcases Nat.lt_or_ge j i with h | h
        · exact hno j qj h hqj
        · obtain rfl : j = i := by omega
          rw [hq] at hqj; cases hqj; exact hne⟩
  · rintro u news₁ h tk ⟨hg, hno⟩ F N
    dsimp only
    k_steps
    exact hnone _ _ _ (fun q hq => by
      obtain ⟨j, hj, e⟩ := List.mem_iff_getElem.mp hq
      exact hno j q (by omega) (by rw [List.getElem?_eq_getElem hj, e])) (by k_asm) (by k_asm) hg
end
end
section
section
variable {w : World} {A A₀ : Around} {base h₀ : Heap} {outer : List Env} {env : Env} {L : Addr} {m : Str → Option Value} {s : Shared} {news : List (Addr × Obj)} {mg mb : Str → Option Value} {mean : ExcName → Option Value}
  {Q E : Value → Shared → Prop}
theorem FrameAt.sub {a b : List (Addr × Obj)} {v : Value} {kind : Str} {p h wd n : Int} {lc : Addr} (x : FrameAt w a v kind p h wd lc n) (s : ∀ p ∈ a, p ∈ b) : FrameAt w b v kind p h wd lc n :=
  let ⟨x, dx, k0, t0, k1, t1, k2, t2, k3, t3, k4, k5, t5, e, h1, h2⟩ := x; ⟨x, dx, k0, t0, k1, t1, k2, t2, k3, t3, k4, k5, t5, e, s _ h1, s _ h2⟩
theorem c_placeOf2 {v : Value} {nm : Str} {p h wd n x : Int} {tx : Tok} {lc : Addr} {ys : List Value} {rows : List (Int × Int × Int × Int)}
    (F : Fr h₀ L s.heap m) (B : Below A₀ base outer h₀) (X : (hd.heap_39 w.params).In h₀) (T : Top hd.view_39 (looseW hd.view_39 []) mean mg mb h₀)
    (hA : A.frames = some (env :: outer)) (hf : env.frame = some L) (hke : env.scope.kind = .function) (hh : A.handled = none) (hdp : A.depth ≤ 580) (hun : A.units ≤ 1800)
    (N : News h₀ L s.heap news) (hv : FrameAt w news v nm p h wd lc n) (hl : ListAt news lc ys) (hr : Paired (CompAt w 102 news) ys rows) (h4 : rows.length ≤ 4)
    (hsome : ∀ (i : Int) t h' tk', x ∈ rows.map (·.1) → i = (rows.map (·.1)).idxOf x → Fr h₀ L h' m → News h₀ L h' news → Q (.int i t) { s with heap := h', toks := tk' })
    (hnone : ∀ h' tk', x ∉ rows.map (·.1) → Fr h₀ L h' m → News h₀ L h' news → Q .none { s with heap := h', toks := tk' }) :
    wpAny (model Challenge.rw_nz0252_01.row.prog w) A (call (.ref 207) [v, .int x tx]) Q E s := by

  refine c_placeOf F B X T hA hf hke hh hdp hun N hv hl hr h4 ?_ ?_
  · rintro i t news' h' tk' ⟨q, hq, rfl⟩ hmin F' N' g
    have hi : i < rows.length := by
      rcases Nat.lt_or_ge i rows.length with h | h
      · exact h
      · rw [List.getElem?_eq_none h] at hq; cases hq
    have hqe : rows[i] = q := by rw [List.getElem?_eq_getElem hi] at hq; exact Option.some.inj hq
    have hmem : q.1 ∈ rows.map (·.1) := List.mem_map.mpr ⟨q, List.mem_of_getElem? hq, rfl⟩
    refine hsome i t h' tk' hmem ?_ F' (fun p hp => N' p (g p hp))
    have : (rows.map (·.1)).idxOf q.1 = i := by
      unfold List.idxOf
      refine List.findIdx_eq (by simpa using hi) |>.mpr ⟨by simp [hqe], fun j hj => ?_⟩
      simpa using hmin j rows[j] hj (List.getElem?_eq_getElem (Nat.lt_trans hj hi))
    rw [this]
  · rintro news' h' tk' hno F' N' g
    exact hnone h' tk' (fun hm => by obtain ⟨q, hq, e⟩ := List.mem_map.mp hm; exact hno q hq e) F' (fun p hp => N' p (g p hp))
local macro_rules | `(tactic| walk_at "call ref") => `(tactic| (k_here; (with_reducible show wpAny _ _ (call (Value.ref 63) [Value.str _ _]) _ _ _); k_dflt (refine' x_make (by k_asm) (by k_asm) (by k_asm) (by k_asm) (by exact rfl) (by first | exact rfl | assumption) (by first | exact rfl | assumption) (by exact rfl) (by exact Nat.le_of_ble_eq_true rfl) (by exact Nat.le_of_ble_eq_true rfl) (by k_asm) (.inr rfl) ?_); intro e' tup' d' h' tk' F' N' l1))
local macro_rules | `(tactic| walk_at "exec For Name Attribute cons nil") => `(tactic| (refine Stop.to ?_))
local macro_rules | `(tactic| walk_at "exec Raise some none") => `(tactic| (refine Stop.to ?_))
theorem c_scanFrom {v vf : Value} {la lb lc lk : Addr} {r : Int × Int × Int × Int} {va vb vc ys : List Value} {ids : List Int} {nm : Str} {p h wd n : Int} {rows : List (Int × Int × Int × Int)}
    (F : Fr h₀ L s.heap m) (B : Below A₀ base outer h₀) (X : (hd.heap_39 w.params).In h₀) (T : Top hd.view_39 (looseW hd.view_39 []) mean mg mb h₀)
    (hA : A.frames = some (env :: outer)) (hf : env.frame = some L) (hke : env.scope.kind = .function) (hh : A.handled = none) (hdp : A.depth ≤ 560) (hun : A.units ≤ 1600)
    (N : News h₀ L s.heap news) (hv : ScanAt w 266 "idents" news v la lb lc r)
    (ha : ListAt news la va) (hb : ListAt news lb vb) (hc : ListAt news lc vc) (hi : IntsAre va ids) (za : va.length ≤ 4) (zb : vb.length ≤ 4) (zc : vc.length ≤ 4)
    (hvf : FrameAt w news vf nm p h wd lk n) (hl : ListAt news lk ys) (hr : Paired (CompAt w 102 news) ys rows) (h4 : rows.length ≤ 4)
    (hret : ∀ v lp lb2 lc2 vp news' h' tk', (∀ z ∈ ids, z ∈ rows.map (·.1)) → IntsAre vp (ids.map fun z => ((rows.map (·.1)).idxOf z : Int)) → Fr h₀ L h' m → News h₀ L h' news' → Grows news news' → ScanAt w 301 "places" news' v lp lb2 lc2 r → ListAt news' lp vp → ListAt news' lb2 vb → ListAt news' lc2 vc →
      (∀ p ∈ news, p.1 ≠ lp ∧ p.1 ≠ lb2 ∧ p.1 ≠ lc2) → @Ne Nat lp lb2 → @Ne Nat lp lc2 → @Ne Nat lb2 lc2 → Q v { s with heap := h', toks := tk' })
    (hraise : ∀ G e h' tk', (∃ z ∈ ids, z ∉ rows.map (·.1)) → Fr h₀ L G m → XRaised base G (env :: outer) e 63 news h' → G.UpToSlots h' → E (.ref e) { s with heap := h', toks := tk' }) :
    wpAny (model Challenge.rw_nz0252_01.row.prog w) A (call (.ref 322) [v, vf]) Q E s := by

  obtain ⟨x, dx, k0, k1, k2, k3, k4, k5, k6, u0, u1, u2, u3, rfl, hx, hdx⟩ := hv
  obtain ⟨na, ha⟩ := ha
  obtain ⟨nb, hb⟩ := hb
  obtain ⟨nc, hc⟩ := hc
  have hxf : ∃ xf, vf = .ref xf := let ⟨x, _, _, _, _, _, _, _, _, _, _, _, _, e, _, _⟩ := hvf; ⟨x, e⟩
  obtain ⟨xf, rfl⟩ := hxf
  revert X; k_fill; intro X
  refine up hdp hun hh hA ?_
  refine wpAny_call ?_
  k_dflt (refine' code_def (binds := [(Str.ofString "head", .ref x), (Str.ofString "frame", .ref xf)]) ?k1 ?k2 ?k3 ?k4 ?k5 ?kA ?kF ?kK ?k6 ?k7 ?k8 ?k9 ?kB ?_ ?c2 ?c3 ?c4 ?c5; (case kA => exact rfl); (case kF => assumption); (case kK => assumption); (case k1 => k_asm); (case k2 => k_asm); (case k3 => k_asm); (case k4 => k_asm); (case k5 => k_asm); (case k6 => k_is); (case k7 => k_is); (case k8 => k_room); (case k9 => exact BindsTo.of_eq rfl); (case c5 => decide); (case kB => exact locs rfl); (case c2 => exact rfl); (case c3 => exact rfl); (case c4 => exact rfl); k_whole; intro g' L' h' FG' F' N' B' X' T'; (try dsimp only); (try k_lift B'); (try k_fold))
  k_steps
  refine Stop.of ?_
  rename_i lp _ l1 hh F2 N2
  have hlt := l1
  refine for_S (h₀ := g') (l := la) (vs := va) (n := na) (m₀ := fun y => if y = Str.ofString "places" then some (.ref lp) else List.lookup y [(Str.ofString "head", Value.ref x), (Str.ofString "frame", Value.ref xf)].reverse) (news := (lp, listOf (List.toArray []) 0) :: news) [Str.ofString "ident", Str.ofString "place"]
    (fun i n' => ∃ vp np, n' = (lp, listOf (List.toArray vp) np) :: news ∧ vp.length = i ∧ IntsAre vp ((ids.take i).map fun z => ((rows.map (·.1)).idxOf z : Int)) ∧ ∀ z ∈ ids.take i, z ∈ rows.map (·.1)) (EndOk.ofNone rfl) ?_ (.tail _ ha) ⟨[], 0, rfl, rfl, .nil, by simp⟩ ?_ ?_
  · k_steps
    all_goals k_asm
  · rintro i v u news₁ I it h tk hv hit ⟨vp, np, rfl, hvl, hip, hall⟩ hm hoff F N
    have hil : i < ids.length := by
      have := hi.length
      rcases Nat.lt_or_ge i va.length with h | h
      · omega
      · rw [List.getElem?_eq_none h] at hv; cases hv
    obtain ⟨ti, eti⟩ := hi.get i ids[i] (by simp [hil])
    rw [hv] at eti
    cases eti
    have nI : @Ne Nat lp I := hoff _ (.head _)
    have hsz : vp.length ≤ sizeLine := by rw [sizeLine_eq]; have := hi.length; omega
    have htk : ids.take (i + 1) = ids.take i ++ [ids[i]] := List.take_succ_eq_append_getElem hil
    k_steps
    refine Stop.of ?_
    refine c_placeOf2 (by k_asm) (by k_asm) (by k_asm) (by k_asm) (by exact rfl) (by first | exact rfl | assumption) (by first | exact rfl | assumption) (by exact rfl) (by exact Nat.le_of_ble_eq_true rfl) (by exact Nat.le_of_ble_eq_true rfl) (by k_asm) (FrameAt.sub hvf (by intro p hp; exact .tail _ (.tail _ hp))) (let ⟨n, e⟩ := hl; ⟨n, .tail _ (.tail _ e)⟩) (comps_sub hr (by intro p hp; exact .tail _ (.tail _ hp))) h4 ?_ ?_
    · rintro pi t h' tk' hmem rfl F N
      k_steps
      rename News _ _ _ _ => N4
      exact ⟨_, _, _, (lp, listOf (List.toArray (vp ++ [_])) _) :: news, rfl, by k_asm, N4, List.forall_mem_cons.mpr ⟨nI, fun p hp => hoff p (.tail _ hp)⟩, .tail _ ha, by (repeat (first | exact off_over | refine off_if (by decide) ?_)),
        _, _, rfl, by (rw [List.length_append, hvl]; rfl), by (rw [htk, List.map_append]; exact hip.append (.cons _ _ .nil)), by (rw [htk]; intro z hz; exact (List.mem_append.mp hz).elim (hall z) fun hz => by (rw [List.mem_singleton.mp hz]; exact hmem))⟩
    · rintro h' tk' hno F N
      k_steps
      refine Stop.of ?_
      refine x_raise (by exact rfl) ?_
      k_steps
      refine XMade.intro (.inr rfl) X' (by k_asm) (by k_asm) ?_
      show wpAny _ _ (leaving _ _) _ _ _
      refine leave_x1 (C := 63) B' (by k_asm) (by k_asm) (by assumption) rfl rfl ?_
      intro h' hR hU
      exact hraise _ _ _ _ ⟨ids[i], List.getElem_mem hil, hno⟩ FG' (hR.sub fun p hp => by (repeat (first | exact hp | refine List.Mem.tail _ ?_))) hU
  · rintro u news₁ h tk ⟨vp, np, rfl, hvl, hip, hall⟩ F N
    have e1 := hi.length
    rw [e1, List.take_length] at hip hall
    k_steps
    exact hret _ lp _ _ vp _ _ _ hall hip (by k_asm) (by k_asm) (Grows.cons (Grows.cons (Grows.cons (Grows.cons Grows.refl.cons)))) ⟨_, _, _, _, _, _, _, _, _, _, _, _, _, rfl, .head _, .tail _ (.head _)⟩ ⟨_, by k_mem⟩ ⟨_, by k_mem⟩ ⟨_, by k_mem⟩
      (fun p hp => ⟨Nat.ne_of_lt (hlt p hp), (by k_all : ∀ p ∈ news, p.1 ≠ _) p hp, (by k_all : ∀ p ∈ news, p.1 ≠ _) p hp⟩) (by k_ne) (by k_ne) (by k_ne)
end
end
section
section
variable {w : World} {A A₀ : Around} {base h₀ : Heap} {outer : List Env} {env : Env} {L : Addr} {m : Str → Option Value} {s : Shared} {news : List (Addr × Obj)} {mg mb : Str → Option Value} {mean : ExcName → Option Value}
  {Q E : Value → Shared → Prop}
local macro_rules | `(tactic| walk_at "exec Assign cons ListComp") => `(tactic| (refine Stop.to ?_))
theorem c_scanTo {v vf : Value} {la lb lc lk : Addr} {r : Int × Int × Int × Int} {va vb vc ys : List Value} {ids : List Int} {nm : Str} {p h wd n : Int} {rows : List (Int × Int × Int × Int)}
    (F : Fr h₀ L s.heap m) (B : Below A₀ base outer h₀) (X : (hd.heap_39 w.params).In h₀) (T : Top hd.view_39 (looseW hd.view_39 []) mean mg mb h₀)
    (hA : A.frames = some (env :: outer)) (hf : env.frame = some L) (hke : env.scope.kind = .function) (hh : A.handled = none) (hdp : A.depth ≤ 560) (hun : A.units ≤ 1600)
    (N : News h₀ L s.heap news) (hv : ScanAt w 301 "places" news v la lb lc r)
    (ha : ListAt news la va) (hb : ListAt news lb vb) (hc : ListAt news lc vc) (hin : ∀ z ∈ ids, z ∈ rows.map (·.1)) (hi : IntsAre va (ids.map fun z => ((rows.map (·.1)).idxOf z : Int))) (za : va.length ≤ 4) (zb : vb.length ≤ 4) (zc : vc.length ≤ 4)
    (hvf : FrameAt w news vf nm p h wd lk n) (hl : ListAt news lk ys) (hr : Paired (CompAt w 102 news) ys rows) (h4 : rows.length ≤ 4)
    (hret : ∀ v la2 lb2 lc2 zs news' h' tk', Fr h₀ L h' m → News h₀ L h' news' → Grows news news' → ScanAt w 266 "idents" news' v la2 lb2 lc2 r → ListAt news' la2 zs → IntsAre zs ids → ListAt news' lb2 vb → ListAt news' lc2 vc → Q v { s with heap := h', toks := tk' }) :
    wpAny (model Challenge.rw_nz0252_01.row.prog w) A (call (.ref 327) [v, vf]) Q E s := by

  obtain ⟨x, dx, k0, k1, k2, k3, k4, k5, k6, u0, u1, u2, u3, rfl, hx, hdx⟩ := hv
  obtain ⟨na, ha⟩ := ha
  obtain ⟨nb, hb⟩ := hb
  obtain ⟨nc, hc⟩ := hc
  obtain ⟨xf, df, q0, w0, q1, w1, q2, w2, q3, w3, q4, q5, w5, rfl, hxf, hdf⟩ := hvf
  obtain ⟨nk, hl⟩ := hl
  revert X; k_fill; intro X
  refine up hdp hun hh hA ?_
  refine wpAny_call ?_
  k_dflt (refine' code_defC (binds := [(Str.ofString "scan", .ref x), (Str.ofString "frame", .ref xf)]) ?k1 ?k2 ?k3 ?k4 ?k5 ?kA ?kF ?kK ?k6 ?k7 ?k8 ?k9 ?kB ?kD ?_ ?c2 ?c3 ?c4; (case kA => exact rfl); (case kF => assumption); (case kK => assumption); (case k1 => k_asm); (case k2 => k_asm); (case k3 => k_asm); (case k4 => k_asm); (case k5 => k_asm); (case k6 => k_is); (case k7 => k_is); (case k8 => k_room); (case k9 => exact BindsTo.of_eq rfl); (case kB => exact rfl); (case kD => decide +kernel); (case c2 => exact rfl); (case c3 => exact rfl); (case c4 => exact rfl); k_whole; intro g' L' h' tk' cells' FG' F' N' Y' B' X' T' l1; (try k_lt l1); k_cells Y'; (try simp only [List.cons_append, List.nil_append] at N'); (try dsimp only); (try k_lift B'); (try k_fold))
  k_steps
  refine Stop.of ?_
  rename_i cobj cdat
  have cd2 : cobj.data = .cell (some (.ref xf)) := cdat
  have hly := hr.length
  have hla := hi.length
  rw [List.length_map] at hla
  refine lc_asgF (by k_asm) (ax := la) (vs := va) (k := na) (news := (L' + 1, cobj) :: news) (fun i zs n' => Grows ((L' + 1, cobj) :: news) n' ∧ IntsAre zs (ids.take i)) (fun i v m₂ => m₂ (Str.ofString "place") = some v) (EndOk.ofNone rfl) rfl ?_ (.tail _ ha) (by rw [sizeLine_eq]; omega) (by with_unfolding_all rfl) (by with_unfolding_all rfl) (by decide) (by rfl) (by decide) (by rfl) (by rfl) ⟨Grows.refl, .nil⟩ ?_ ?_ ?_
  · k_steps
    all_goals k_asm
  · intro i v ys news' C m₀ s Q E' hv hJ F N hns hoff hCL hC₀ h
    exact asg_name hns rfl rfl h
  · intro i v zs news₁ I oI C oC D m₂ h tk E' hv ⟨hg, hp⟩ hm' hC hone F N off ne
    have hil : i < ids.length := by
      rcases Nat.lt_or_ge i va.length with h | h
      · omega
      · rw [List.getElem?_eq_none h] at hv; cases hv
    obtain ⟨ti, eti⟩ := hi.get i ((rows.map (·.1)).idxOf ids[i] : Int) (by simp [hil])
    rw [hv] at eti
    cases eti
    have hmem := hin ids[i] (List.getElem_mem hil)
    have hx0 : (rows.map (·.1)).idxOf ids[i] < (rows.map (·.1)).length := List.idxOf_lt_length_iff.mpr hmem
    have hge : (rows.map (·.1))[(rows.map (·.1)).idxOf ids[i]] = ids[i] := List.getElem_idxOf hx0
    generalize hidx : (rows.map (·.1)).idxOf ids[i] = ix at *
    have hx1 : ix < rows.length := by simpa using hx0
    obtain ⟨v', hv', x', dx', k0', t0', k1', t1', k2', t2', k3', t3', rfl, hx', hdx'⟩ := paired_at2 hr (List.getElem?_eq_getElem hx1)
    have hid : rows[ix].1 = ids[i] := by simpa using hge
    have hx2 := hg _ (.tail _ hx')
    have hdx2 := hg _ (.tail _ hdx')
    have hx3 := hg _ (.tail _ hxf)
    have hdx3 := hg _ (.tail _ hdf)
    have hl3 := hg _ (.tail _ hl)
    have hcell := hg _ (.head _)
    have hsub : ys[((ix : Nat) : Int).toNat]? = some (.ref x') := by simpa using hv'
    k_steps
    rename News _ _ _ _ => N4
    have htk : ids.take (i + 1) = ids.take i ++ [rows[ix].1] := by rw [hid]; exact List.take_succ_eq_append_getElem hil
    exact LCg.CompEnd.intro (by k_asm) N4 news₁ (List.forall_mem_cons.mpr ⟨by k_mem, List.forall_mem_cons.mpr ⟨by k_mem, List.forall_mem_cons.mpr ⟨by k_mem, fun p hp => by repeat (first | exact hp | refine List.Mem.tail _ ?_)⟩⟩⟩) off hm' ⟨hg, by rw [htk]; exact hp.append (.cons _ _ .nil)⟩
  · intro D zs news' h tk ⟨hg, hp⟩ F N hoff
    have hx2 := hg _ (.tail _ hx)
    have hdx2 := hg _ (.tail _ hdx)
    have hb2 := hg _ (.tail _ hb)
    have hc2 := hg _ (.tail _ hc)
    rw [hla, List.take_length] at hp
    k_steps
    exact hret _ D _ _ zs _ _ _ (by k_asm) (by k_asm) (fun p hp => .tail _ (.tail _ (.tail _ (.tail _ (.tail _ (hg p (.tail _ hp))))))) ⟨_, _, _, _, _, _, _, _, _, _, _, _, _, rfl, .head _, .tail _ (.head _)⟩ ⟨_, by k_mem⟩ hp ⟨_, by k_mem⟩ ⟨_, by k_mem⟩
end
end
section
section
variable {w : World} {A A₀ : Around} {base h₀ : Heap} {outer : List Env} {env : Env} {L : Addr} {m : Str → Option Value} {s : Shared} {news : List (Addr × Obj)} {mg mb : Str → Option Value} {mean : ExcName → Option Value}
  {Q E : Value → Shared → Prop}
local macro_rules | `(tactic| walk_at "exec Try") => `(tactic| (refine Stop.to ?_))
local macro_rules | `(tactic| walk_at "eval ListComp") => `(tactic| (refine Stop.to ?_))
local macro_rules | `(tactic| walk_at "compareOp NotIn int ref") => `(tactic| (k_here; (with_reducible show wpAny _ _ (compareOp CmpOp.NotIn (Value.int _ _) (Value.ref _)) _ _ _); k_dflt (refine notin_list_ints (News.isList (by k_asm) (by k_mem)) (by first | assumption | l_ints) ?_)))
local macro_rules | `(tactic| walk_at "call builtin:list.index") => `(tactic| (refine Stop.to ?_))
local macro_rules | `(tactic| walk_at "call builtin:list.append") => `(tactic| (k_here; (with_reducible show wpAny _ _ (call (Value.builtin _) [Value.ref _, _]) _ _ _); k_dflt (refine' app_L ?F ?N ?U ?z ?_; (case F => k_asm); (case N => k_asm); (case U => k_updF); (case z => first | assumption | exact Nat.le_of_ble_eq_true rfl)); intro h' F' N'; (try dsimp only at N'); (try k_sweep)))
local macro_rules | `(tactic| walk_at "compareOp Eq ref ref") => `(tactic| (refine Stop.to ?_))
local macro_rules | `(tactic| walk_at "compareOp NotEq ref ref") => `(tactic| (refine Stop.to ?_))
theorem ints_take {zs : List Value} {ns : List Int} {i : Nat} {x : Int} (e : ns[i]? = some x) (h : IntsAre zs (ns.take i)) (t : Tok) : IntsAre (zs ++ [.int x t]) (ns.take (i + 1)) := by
  have hi : i < ns.length := by
    rcases Nat.lt_or_ge i ns.length with h | h
    · exact h
    · rw [List.getElem?_eq_none h] at e; cases e
  rw [List.take_succ_eq_append_getElem hi]
  rw [List.getElem?_eq_getElem hi] at e
  cases e
  exact h.append (.cons _ _ .nil)
theorem ScanAt.offc {C : Addr} {key : String} {a b : List (Addr × Obj)} {v : Value} {la lb lc : Addr} {r} (h : ScanAt w C key a v la lb lc r) (s : ∀ p ∈ a, p.2.data ≠ .cell none → p ∈ b) : ScanAt w C key b v la lb lc r :=
  let ⟨x, dx, k0, k1, k2, k3, k4, k5, k6, u0, u1, u2, u3, e, h1, h2⟩ := h; ⟨x, dx, k0, k1, k2, k3, k4, k5, k6, u0, u1, u2, u3, e, s _ h1 (by intro q; cases q), s _ h2 (by intro q; cases q)⟩
theorem ListAt.offc {a b : List (Addr × Obj)} {l : Addr} {vs : List Value} (h : ListAt a l vs) (s : ∀ p ∈ a, p.2.data ≠ .cell none → p ∈ b) : ListAt b l vs := let ⟨n, e⟩ := h; ⟨n, s _ e (by intro q; cases q)⟩
theorem cls_ne1 {C dx : Addr} {vs : List Value} {n : Nat} : (instObj C dx).cls ≠ (listOf (List.toArray vs) n).cls := by intro h; cases h
theorem cls_ne2 {es : List DictEntry} {k : Nat} {vs : List Value} {n : Nat} : (dictOf es k).cls ≠ (listOf (List.toArray vs) n).cls := by intro h; injection h with h; exact absurd h (by decide)
theorem obj_ne {h : Heap} {x y : Addr} {o o' : Obj} (N : News h₀ L h news) (a : (x, o) ∈ news) (b : (y, o') ∈ news) (hc : o.cls ≠ o'.cls) : @Ne Nat x y := by
  rintro rfl
  exact hc (congrArg Obj.cls (Option.some.inj ((N _ a).1.symm.trans (N _ b).1) : o = o'))
theorem c_scanRight {vf : Value} {lm lr la lb lc lk : Addr} {r : Int × Int × Int × Int} {u0 u1 u2 u3 : Tok} {va vb vc vs ys : List Value} {nr na nb nc nv : Nat} {ids bs cs : List Int} {nm : Str} {p h wd n : Int} {rows : List (Int × Int × Int × Int)}
    (F : Fr h₀ L s.heap m) (B : Below A₀ base outer h₀) (X : (hd.heap_39 w.params).In h₀) (T : Top hd.view_39 (looseW hd.view_39 []) mean mg mb h₀)
    (hA : A.frames = some (env :: outer)) (hf : env.frame = some L) (hke : env.scope.kind = .function) (hh : A.handled = none) (hdp : A.depth ≤ 550) (hun : A.units ≤ 1500)
    (hout : outer = []) (hXT : Stop ((hd.heap_39 w.params).In base ∧ Top hd.view_39 (looseW hd.view_39 []) mean mg mb base))
    (N : News h₀ L s.heap news) (hm : (lr, listOf #[.ref la, .ref lb, .ref lc, .int r.1 u0, .int r.2.1 u1, .int r.2.2.1 u2, .int r.2.2.2 u3] nr) ∈ news)
    (ha : (la, listOf (List.toArray va) na) ∈ news) (hb : (lb, listOf (List.toArray vb) nb) ∈ news) (hc : (lc, listOf (List.toArray vc) nc) ∈ news) (hi : IntsAre va ids) (hib : IntsAre vb bs) (hic : IntsAre vc cs) (za : va.length ≤ 4) (zb : vb.length ≤ 4) (zc : vc.length ≤ 4)
    (hmm : (lm, listOf (List.toArray vs) nv) ∈ news) (hr : Paired (RowAt news) vs rows) (h4 : rows.length ≤ 4)
    (hvf : FrameAt w news vf nm p h wd lk n) (hl : ListAt news lk ys) (hrf : Paired (CompAt w 102 news) ys rows)
    (hret : ∀ h' tk', Fr h₀ L h' m → News h₀ L h' news → Q (.bool true) { s with heap := h', toks := tk' }) :
    wpAny (model Challenge.rw_nz0252_01.row.prog w) A (call (.ref 408) [vf, .ref lm, .ref lr]) Q E s := by

  have hlv := hr.length
  have hxf : ∃ xf, vf = .ref xf := let ⟨x, _, _, _, _, _, _, _, _, _, _, _, _, e, _, _⟩ := hvf; ⟨x, e⟩
  obtain ⟨xf, rfl⟩ := hxf
  subst hout
  revert X; k_fill; intro X
  refine up hdp hun hh hA ?_
  refine wpAny_call ?_
  k_dflt (refine' code_defSC0 (binds := [(Str.ofString "frame", .ref xf), (Str.ofString "members", .ref lm), (Str.ofString "rows", .ref lr)]) ?k1 ?k2 ?k3 ?k4 ?k5 ?kA ?kF ?kK ?k6 ?k7 ?k8 ?k9 ?kB ?kD ?_ ?c2 ?c3 ?c4; (case kA => exact rfl); (case kF => assumption); (case kK => assumption); (case k1 => k_asm); (case k2 => k_asm); (case k3 => k_asm); (case k4 => k_asm); (case k5 => k_asm); (case k6 => k_is); (case k7 => k_is); (case k8 => k_room); (case k9 => exact BindsTo.of_eq rfl); (case kB => exact rfl); (case kD => decide +kernel); (case c2 => exact rfl); (case c3 => exact rfl); (case c4 => exact rfl); k_whole; intro g' L' h' tk' cells' FG' F' N' Y' B' X' T' l1; (try k_lt l1); k_cells Y'; (try simp only [List.cons_append, List.nil_append] at N'); (try dsimp only); (try k_lift B'); (try k_fold))
  k_steps
  refine Stop.of ?_
  rename_i o1 d1
  have e1 : o1.data = .cell none := d1
  refine c_scanHead (by k_asm) (by k_asm) (by k_asm) (by k_asm) (by exact rfl) (by first | exact rfl | assumption) (by first | exact rfl | assumption) (by exact rfl) (by exact Nat.le_of_ble_eq_true rfl) (by exact Nat.le_of_ble_eq_true rfl) (by k_asm) (.tail _ hm) (.tail _ ha) (.tail _ hb) (.tail _ hc) za zb zc ?_
  rintro v1 la2 lb2 lc2 news1 h1 tk1 F1 N1 hg1 hs1 ha1 hb1 hc1
  have hcell := hg1 _ (.head _)
  have hmm1 := hg1 _ (.tail _ hmm)
  have hm1 := hg1 _ (.tail _ hm)
  obtain ⟨p1, p2, p3⟩ := pick news1 (L' + 1)
  generalize news1.filter (fun p => p.1 ≠ L' + 1) = rest1 at p1 p2 p3
  have hoff1 : ∀ p ∈ news1, p.2.data ≠ .cell none → p ∈ rest1 := fun p hp hc => p3 _ hp fun q => hc (by
    have e2 := (N1 _ hp).1
    have e3 := (N1 _ hcell).1
    rw [q, e3] at e2
    rw [← Option.some.inj e2]; exact e1)
  have hn1 : ∀ p ∈ news, p ∈ rest1 := fun p hp => p3 _ (hg1 _ (.tail _ hp)) (Nat.ne_of_lt (Nat.lt_succ_of_lt (l1 p hp)))
  have hs2 := hs1.offc hoff1
  have ha2 := ha1.offc hoff1
  have hb2 := hb1.offc hoff1
  have hc2 := hc1.offc hoff1
  have N2 : News g' L' h1 ((L' + 1, o1) :: rest1) := List.forall_mem_cons.mpr ⟨N1 _ hcell, fun p hp => N1 p (p1 p hp)⟩
  have hmm2 := hn1 _ hmm
  have hm2 := hn1 _ hm
  clear N1 hg1 hs1 ha1 hb1 hc1 hcell hmm1 hm1 hoff1 p1 p3
  k_steps
  refine Stop.of ?_
  refine lc_evalF (by k_asm) (ax := lm) (vs := vs) (k := nv) (news := (L' + 1, o1) :: rest1) (fun i zs n' => n' = (L' + 1, o1) :: rest1 ∧ IntsAre zs ((rows.map (·.1)).take i)) (fun i v m₂ => m₂ (Str.ofString "part") = some v) (EndOk.ofNone rfl) ?_ (by k_mem) (Nat.le_trans (Nat.le_trans (Nat.le_of_eq hlv) h4) (by rw [sizeLine_eq]; decide)) (by with_unfolding_all rfl) (by decide) (by rfl) (by decide) ⟨rfl, .nil⟩ ?_ ?_ ?_
  · k_steps
    all_goals k_asm
  · intro i v ys news' C m₀ s Q E' hv hJ F N hns hoff hCL hC₀ h
    exact asg_name hns rfl rfl h
  · rintro i v zs news₂ I2 oI2 C2 oC2 D2 m₃ h tk E' hv ⟨rfl, hp2⟩ hm' hC2 hone2 F N off2 ne2
    obtain ⟨qi, hqi, x', t0', t1', t2', t3', n', rfl, hx'⟩ := paired_at hr hv
    have hx2 := hn1 _ hx'
    k_steps
    rename News _ _ _ _ => N4
    have hqi2 : (rows.map (·.1))[i]? = some qi.1 := by rw [List.getElem?_map, hqi]; rfl
    exact LCg.CompEnd.intro (by k_asm) N4 _
      (List.forall_mem_cons.mpr ⟨by k_mem, List.forall_mem_cons.mpr ⟨by k_mem, List.forall_mem_cons.mpr ⟨by k_mem, fun p hp => by repeat (first | exact hp | refine List.Mem.tail _ ?_)⟩⟩⟩)
        off2 hm' ⟨rfl, ints_take hqi2 hp2 _⟩
  · rintro D zs news₂ h tk ⟨rfl, hk⟩ F N hoff
    rw [hlv, ← List.length_map (f := fun r : Int × Int × Int × Int => r.1), List.take_length] at hk
    have nD1 : @Ne Nat (L' + 1) D := hoff (L' + 1, o1) (.head _)
    have nDr : ∀ p ∈ rest1, p.1 ≠ D := fun p hp => hoff p (.tail _ hp)
    have ha3 := hn1 _ ha
    k_steps
    refine Stop.of ?_
    rename_i T0 q4 c1 q5 q6 q7 o2 F7 N7 d7
    generalize hrids : rows.map (·.1) = rids at *
    have hil := hi.length
    refine lc_if (by k_asm) (ax := la) (vs := va) (k := na) (news := (T0, tupOf #[v1, .ref D] 0) :: (D, listOf (List.toArray zs) zs.length) :: (L' + 1, o2) :: rest1) (fun i ys => IntsAre ys ((ids.take i).filter (fun z => decide (z ∉ rids)))) rfl ?_ (by k_mem) (Nat.le_trans za (by rw [sizeLine_eq]; decide)) (by with_unfolding_all rfl) (by decide) (by rfl) (by decide) (by rfl) .nil ?_ ?_
    · k_steps
      all_goals k_asm
    · rintro i v ys I oI C oC D2 m₂ h tk E' hv hJ hC hx F N off ne
      have hil2 : i < ids.length := by
        rcases Nat.lt_or_ge i va.length with h | h
        · rw [← hi.length]; exact h
        · rw [List.getElem?_eq_none h] at hv; cases hv
      obtain ⟨ti, eti⟩ := hi.get i ids[i] (by simp [hil2])
      rw [hv] at eti
      cases eti
      have htk : ids.take (i + 1) = ids.take i ++ [ids[i]] := List.take_succ_eq_append_getElem hil2
      k_steps
      · rename _ = true => ht
        have hin : ids[i] ∈ rids := by simpa using ht
        exact LCg.CompEnd.intro (by k_asm) N _ (fun p hp => hp) off trivial ⟨rfl, by (rw [htk, List.filter_append]; simp only [List.filter_cons, hin, not_true_eq_false, decide_false, Bool.false_eq_true, if_false, List.filter_nil, List.append_nil]; exact hJ)⟩
      · rename _ = false => ht
        have hin : ids[i] ∉ rids := by
          intro q
          have : (rids.any fun x => x == ids[i]) = true := by simp [q]
          rw [this] at ht; cases ht
        exact LCg.CompEnd.intro (by k_asm) N _ (fun p hp => hp) off trivial ⟨rfl, by (rw [htk, List.filter_append]; simp only [List.filter_cons, hin, not_false_eq_true, decide_true, if_true, List.filter_nil]; exact hJ.append (.cons _ _ .nil))⟩
    · rintro D2 ys h tk hJ F N hoff2
      rw [hil, List.take_length] at hJ
      k_steps
      refine Stop.of ?_
      rename_i E2 hE2 FE2 NE2 lE2
      refine ke_eq_ints (News.isList NE2 (.tail _ (.head _))) (News.isList NE2 (.head _)) hJ .nil (by ke_room) ?_
      k_steps
      refine Stop.of ?_
      rename_i g4 F8 N8
      have hkn : decide (List.filter (fun z => decide ¬z ∈ rids) ids = []) = decide (∀ z ∈ ids, z ∈ rids) := by
        rw [decide_eq_decide, List.filter_eq_nil_iff]; simp
      rw [hkn] at F8
      clear hkn
      refine wpAny_Try_except ?_
      have hup : ∀ p ∈ rest1, p ∈ (E2, listOf #[] 0) :: (D2, listOf ys.toArray ys.length) :: (T0, tupOf #[v1, .ref D] 0) :: (D, listOf (List.toArray zs) zs.length) :: (L' + 1, o2) :: rest1 := fun p hp => .tail _ (.tail _ (.tail _ (.tail _ (.tail _ hp))))
      have hupn : ∀ p ∈ news, p ∈ (E2, listOf #[] 0) :: (D2, listOf ys.toArray ys.length) :: (T0, tupOf #[v1, .ref D] 0) :: (D, listOf (List.toArray zs) zs.length) :: (L' + 1, o2) :: rest1 := fun p hp => hup _ (hn1 _ hp)
      k_steps
      refine Stop.of ?_
      have hrf2 := paired_imp (fun _ _ x => CompAt.sub x hupn) hrf
      refine c_scanFrom (by k_asm) (by k_asm) (by k_asm) (by k_asm) (by exact rfl) (by first | exact rfl | assumption) (by first | exact rfl | assumption) (by exact rfl) (by exact Nat.le_of_ble_eq_true rfl) (by exact Nat.le_of_ble_eq_true rfl) (by k_asm) (hs2.sub hup) (let ⟨n, e⟩ := ha2; ⟨n, hup _ e⟩) (let ⟨n, e⟩ := hb2; ⟨n, hup _ e⟩) (let ⟨n, e⟩ := hc2; ⟨n, hup _ e⟩) hi za zb zc (hvf.sub hupn) (let ⟨n, e⟩ := hl; ⟨n, hupn _ e⟩) hrf2 h4 ?_ ?_
      · rintro vS lp lb3 lc3 vp news3 h8 tk8 hall hvp F9 N9 hg9 hsc hlp hlb hlc hfr n1 n2 n3
        have hkt : decide (∀ z ∈ ids, z ∈ rids) = true := by rw [decide_eq_true_iff, ← hrids]; exact hall
        rw [hkt] at F9
        rw [hrids] at hvp
        obtain ⟨xs, ds, k0, k1, k2, k3, k4, k5, k6, w0, w1, w2, w3, rfl, hxs, hds⟩ := hsc
        obtain ⟨np, hlp⟩ := hlp
        have hcell3 := hg9 (L' + 1, o2) (by k_mem)
        have hknown3 := hg9 (D, listOf (List.toArray zs) zs.length) (by k_mem)
        have hm3 := hg9 _ (hupn _ hm)
        have hla3 := hg9 _ (hupn _ ha)
        have hvpl := hvp.length
        rw [List.length_map] at hvpl
        clear F8 N8
        have hil0 := hi.length
        have hcd : o2.data = .cell (some (.ref D)) := d7
        k_steps
        refine Stop.of ?_
        rename_i q10 Dp cp q11 F10 N10 l10
        have hkl := hk.length
        have hz4 : zs.length ≤ 4 := by rw [hkl, ← hrids, List.length_map]; exact h4
        refine lc_evalF (by k_asm) (ax := la) (vs := va) (k := na) (news := (Dp, listOf (List.toArray vp) cp) :: news3) (fun i us n' => n' = (Dp, listOf (List.toArray vp) cp) :: news3 ∧ IntsAre us ((ids.map fun z => (rids.idxOf z : Int)).take i)) (fun i v m₂ => m₂ (Str.ofString "ident") = some v) (EndOk.ofNone rfl) ?_ (by k_mem) (Nat.le_trans za (by rw [sizeLine_eq]; decide)) (by with_unfolding_all rfl) (by decide) (by rfl) (by decide) ⟨rfl, .nil⟩ ?_ ?_ ?_
        · k_steps
          all_goals k_asm
        · intro i v ys news' C m₀ s Q E' hv hJ F N hns hoff hCL hC₀ h
          exact asg_name hns rfl rfl h
        · rintro i v us news₂ I2 oI2 C2 oC2 D3 m₃ h tk E' hv ⟨rfl, hp2⟩ hm' hC2 hone2 F N off2 ne2
          have hil2 : i < ids.length := by
            rcases Nat.lt_or_ge i va.length with h | h
            · rw [← hi.length]; exact h
            · rw [List.getElem?_eq_none h] at hv; cases hv
          obtain ⟨ti, eti⟩ := hi.get i ids[i] (by simp [hil2])
          rw [hv] at eti
          cases eti
          have hin : ids[i] ∈ rids := by rw [← hrids]; exact hall _ (List.getElem_mem hil2)
          have htk : (ids.map fun z => (rids.idxOf z : Int)).take (i + 1) = (ids.map fun z => (rids.idxOf z : Int)).take i ++ [(rids.idxOf ids[i] : Int)] := by
            rw [List.take_succ_eq_append_getElem (by simpa using hil2), List.getElem_map]
          k_steps
          refine Stop.of ?_
          rename News _ _ _ _ => N4
          refine kf_index N4 (.tail _ (.tail _ (.tail _ (.tail _ hknown3)))) (kf_of hk) (kf_at_of hk hin) rfl (Nat.le_trans hz4 (by rw [sizeLine_eq]; decide)) ?_
          k_steps
          exact LCg.CompEnd.intro (by k_asm) N4 _ (fun p hp => hp) off2 hm' ⟨rfl, by rw [htk]; exact hp2.append (.cons _ _ .nil)⟩
        · rintro D3 us news₂ h tk ⟨rfl, hp2⟩ F N hoff3
          rw [hil0, ← List.length_map (f := fun z => (rids.idxOf z : Int)), List.take_length] at hp2
          k_steps
          refine Stop.of ?_
          refine ke_ne_ints (News.isList N (.tail _ (.head _))) (News.isList N (.head _)) hvp hp2 (by ke_room) ?_
          rw [decide_eq_true rfl]
          dsimp only [Bool.not_true]
          k_steps
          refine Stop.of ?_
          have hup9 : ∀ p ∈ news3, p ∈ (D3, listOf us.toArray us.length) :: (Dp, listOf (List.toArray vp) cp) :: news3 := fun p hp => .tail _ (.tail _ hp)
          have hupn9 : ∀ p ∈ news, p ∈ (D3, listOf us.toArray us.length) :: (Dp, listOf (List.toArray vp) cp) :: news3 := fun p hp => hup9 _ (hg9 _ (hupn _ hp))
          refine c_scanTo (by k_asm) (by k_asm) (by k_asm) (by k_asm) (by exact rfl) (by first | exact rfl | assumption) (by first | exact rfl | assumption) (by exact rfl) (by exact Nat.le_of_ble_eq_true rfl) (by exact Nat.le_of_ble_eq_true rfl) (by k_asm) ⟨xs, ds, k0, k1, k2, k3, k4, k5, k6, w0, w1, w2, w3, rfl, hup9 _ hxs, hup9 _ hds⟩ ⟨_, hup9 _ hlp⟩ (let ⟨n, e⟩ := hlb; ⟨n, hup9 _ e⟩) (let ⟨n, e⟩ := hlc; ⟨n, hup9 _ e⟩) hall (by rw [hrids]; exact hvp) (by rw [hvpl, ← hil0]; exact za) zb zc (hvf.sub hupn9) (let ⟨n, e⟩ := hl; ⟨n, hupn9 _ e⟩) (paired_imp (fun _ _ x => CompAt.sub x hupn9) hrf) h4 ?_
          rintro v4 la4 lb4 lc4 zs4 news4 h12 tk12 F12 N12 hg12 hs4 hl4a hi4 hl4b hl4c
          k_steps
          refine Stop.of ?_
          have hz4l := hi4.length
          refine c_told (by k_asm) (by k_asm) (by k_asm) (by k_asm) (by exact rfl) (by first | exact rfl | assumption) (by first | exact rfl | assumption) (by exact rfl) (by exact Nat.le_of_ble_eq_true rfl) (by exact Nat.le_of_ble_eq_true rfl) (by k_asm) hs4 hl4a hl4b hl4c (by rw [hz4l, ← hil0]; exact za) zb zc ?_
          rintro D5 la5 lb5 lc5 n5 v0 v1' v2 v3 news5 h13 tk13 F13 N13 hg13 hD5 ⟨na5, hl5a⟩ ⟨nb5, hl5b⟩ ⟨nc5, hl5c⟩
          k_steps
          refine Stop.of ?_
          have hgn : ∀ p ∈ news3, p ∈ news5 := fun p hp => hg13 _ (hg12 _ (hup9 _ hp))
          have hgnn : ∀ p ∈ news, p ∈ news5 := fun p hp => hgn _ (hg9 _ (hupn _ hp))
          refine ne_told (told_reads (by k_asm) hD5 hl5a hl5b hl5c hi4 hib hic) (told_reads (by k_asm) (hgnn _ hm) (hgnn _ ha) (hgnn _ hb) (hgnn _ hc) hi hib hic) (by ke_room) ?_
          have hxs5 := hgn _ hxs
          have hds5 := hgn _ hds
          have hlp5 := hgn _ hlp
          obtain ⟨nb6, hlb6⟩ := hlb
          obtain ⟨nc6, hlc6⟩ := hlc
          have hlb5 := hgn _ hlb6
          have hlc5 := hgn _ hlc6
          have e1 := obj_ne N13 hxs5 hlp5 cls_ne1
          have e2 := obj_ne N13 hxs5 hlb5 cls_ne1
          have e3 := obj_ne N13 hxs5 hlc5 cls_ne1
          have e4 := obj_ne N13 hds5 hlp5 cls_ne2
          have e5 := obj_ne N13 hds5 hlb5 cls_ne2
          have e6 := obj_ne N13 hds5 hlc5 cls_ne2
          have f1 : ∀ p ∈ rest1, p.1 ≠ lp := fun p hp => (hfr p (hup _ hp)).1
          have f2 : ∀ p ∈ rest1, p.1 ≠ lb3 := fun p hp => (hfr p (hup _ hp)).2.1
          have f3 : ∀ p ∈ rest1, p.1 ≠ lc3 := fun p hp => (hfr p (hup _ hp)).2.2
          have z1 : vb.length ≤ sizeLine := Nat.le_trans zb (by rw [sizeLine_eq]; decide)
          have z2 : vc.length ≤ sizeLine := Nat.le_trans zc (by rw [sizeLine_eq]; decide)
          have z3 : vp.length ≤ sizeLine := by rw [hvpl, ← hil0]; exact Nat.le_trans za (by rw [sizeLine_eq]; decide)
          have N14 : News g' L' h13 ((lb3, listOf (List.toArray vb) nb6) :: (lc3, listOf (List.toArray vc) nc6) :: (lp, listOf (List.toArray vp) np) :: (xs, instObj 301 ds) :: (ds, _) :: rest1) :=
            List.forall_mem_cons.mpr ⟨N13 _ hlb5, List.forall_mem_cons.mpr ⟨N13 _ hlc5, List.forall_mem_cons.mpr ⟨N13 _ hlp5, List.forall_mem_cons.mpr ⟨N13 _ hxs5, List.forall_mem_cons.mpr ⟨N13 _ hds5, fun p hp => N13 p (hgn _ (hg9 _ (hup _ hp)))⟩⟩⟩⟩⟩
          clear N13 hxs5 hds5 hlp5 hlb5 hlc5 hgn hgnn hD5 hl5a hl5b hl5c hg13 N12 hg12 hs4 hl4a hl4b hl4c F12 N F hoff3 hup9 hupn9 N10 F10 l10 hg9 hfr hxs hds hlp hlb6 hlc6 hm3 hla3 hknown3 hcell3 hup hupn hrf2
          k_steps
          refine Stop.of ?_
          refine c_told (by k_asm) (by k_asm) (by k_asm) (by k_asm) (by exact rfl) (by first | exact rfl | assumption) (by first | exact rfl | assumption) (by exact rfl) (by exact Nat.le_of_ble_eq_true rfl) (by exact Nat.le_of_ble_eq_true rfl) (by k_asm) (hs2.sub fun p hp => .tail _ (.tail _ (.tail _ (.tail _ (.tail _ hp))))) (let ⟨n, e⟩ := ha2; ⟨n, .tail _ (.tail _ (.tail _ (.tail _ (.tail _ e))))⟩) (let ⟨n, e⟩ := hb2; ⟨n, .tail _ (.tail _ (.tail _ (.tail _ (.tail _ e))))⟩) (let ⟨n, e⟩ := hc2; ⟨n, .tail _ (.tail _ (.tail _ (.tail _ (.tail _ e))))⟩) za zb zc ?_
          rintro D6 la6 lb7 lc7 n6 x0 x1 x2 x3 news6 h16 tk16 F16 N16 hg16 hD6 ⟨na7, hl6a⟩ ⟨nb7, hl6b⟩ ⟨nc7, hl6c⟩
          have hgn6 : ∀ p ∈ news, p ∈ news6 := fun p hp => hg16 _ (.tail _ (.tail _ (.tail _ (.tail _ (.tail _ (hn1 _ hp))))))
          k_steps
          refine Stop.of ?_
          refine eq_told (told_reads (by k_asm) hD6 hl6a hl6b hl6c hi hib hic) (told_reads (by k_asm) (hgn6 _ hm) (hgn6 _ ha) (hgn6 _ hb) (hgn6 _ hc) hi hib hic) (by ke_room) ?_
          k_steps
          rename News _ _ _ _ => kN
          rename Fr _ _ _ _ => kF
          exact hret _ _ kF fun p hp => kN p (hgn6 p hp)
      · rintro G e h8 tk8 ⟨z, hz, hnz⟩ FG2 hR hU
        have hkf : decide (∀ z ∈ ids, z ∈ rids) = false := by
          rw [decide_eq_false_iff_not]; exact fun q => hnz (by rw [hrids]; exact q z hz)
        rw [hkf] at FG2
        obtain ⟨XB, TB⟩ := hXT
        refine catch_x hR (.inr rfl) FG2 B' hU XB TB rfl ?_ ?_
        · intro s₁ g₁ Q₁ F1 X1 T1 hq
          k_steps
          all_goals exact hq
        · rintro h' gg kt F' N' B'' X'' T'' - -
          clear F8 N8
          k_steps
          rename News _ _ _ _ => kN
          rename Fr _ _ _ _ => kF
          exact hret _ _ kF fun p hp => kN p (hupn p hp)
end
end
section
section
variable {w : World} {A A₀ : Around} {base h₀ : Heap} {outer : List Env} {env : Env} {L : Addr} {m : Str → Option Value} {s : Shared} {news : List (Addr × Obj)} {mg mb : Str → Option Value} {mean : ExcName → Option Value}
  {Q E : Value → Shared → Prop}
local macro_rules | `(tactic| walk_at "exec Assign cons ListComp") => `(tactic| ((with_reducible show wpAny _ _ (exec (Stmt.Assign [Expr.Name (Str.ofString "slots") _] _ _) _) _ _ _); refine Stop.to ?_))
local macro_rules | `(tactic| walk_at "eval ListComp") => `(tactic| (refine Stop.to ?_))
theorem rr_small {b : Int} (h0 : 0 ≤ b) (h : b ≤ 4) : Builtin.Range.small 0 b 1 = true := by
  have e : b = ((b.toNat : Nat) : Int) := by omega
  rw [e]; exact rn_small (by omega)
theorem rr_size {b : Int} (h0 : 0 ≤ b) (h : b ≤ 4) : Builtin.Range.rangeSize 0 b 1 = ((b.toNat : Nat) : Int) := by
  have e : b = ((b.toNat : Nat) : Int) := by omega
  conv => lhs; rw [e]
  exact rn_size (by omega)
def SlotAt (news : List (Addr × Obj)) (v : Value) : Prop := ∃ l vs n ns, v = .ref l ∧ (l, listOf (List.toArray vs) n) ∈ news ∧ IntsAre vs ns ∧ vs.length ≤ 3
theorem SlotAt.sub {a b : List (Addr × Obj)} {v : Value} (h : SlotAt a v) (s : ∀ p ∈ a, p ∈ b) : SlotAt b v := let ⟨l, vs, n, ns, e, m, i, k⟩ := h; ⟨l, vs, n, ns, e, s _ m, i, k⟩
inductive SRJ1 (L' l : Addr) (o1 o2 o3 : Obj) (news : List (Addr × Obj)) (i : Nat) (ys : List Value) (n' : List (Addr × Obj)) : Prop
  | mk (a : Int) (ta : Tok) (b : Int) (tb : Tok) (n : Nat) (rest : List (Addr × Obj)) (ns : List Int) (e : n' = (L' + 1 + 1 + 1, o1) :: (L' + 1 + 1, o2) :: (L' + 1, o3) :: (l, listOf #[.int a ta, .int b tb] n) :: rest)
    (h1 : ∀ p ∈ rest, p.1 ≠ l ∧ p.1 ≠ L' + 1 ∧ p.1 ≠ L' + 1 + 1 ∧ p.1 ≠ L' + 1 + 1 + 1) (a0 : 0 ≤ a) (b0 : 0 ≤ b) (b1 : b < 2147483647) (hg : Grows news rest) (hi : IntsAre ys ns) (hl : ys.length = i) : SRJ1 L' l o1 o2 o3 news i ys n'
inductive SRJ2 (L' l D : Addr) (o9 o2 o3 : Obj) (ys : List Value) (n0 : Nat) (news : List (Addr × Obj)) (i : Nat) (zs : List Value) (n' : List (Addr × Obj)) : Prop
  | mk (a : Int) (ta : Tok) (b : Int) (tb : Tok) (n : Nat) (rest2 : List (Addr × Obj)) (e : n' = (D, listOf (List.toArray ys) n0) :: (L' + 1 + 1 + 1, o9) :: (L' + 1 + 1, o2) :: (L' + 1, o3) :: (l, listOf #[.int a ta, .int b tb] n) :: rest2)
    (h1 : ∀ p ∈ rest2, p.1 ≠ l ∧ p.1 ≠ D ∧ p.1 ≠ L' + 1 ∧ p.1 ≠ L' + 1 + 1 ∧ p.1 ≠ L' + 1 + 1 + 1) (a0 : 0 ≤ a) (b0 : 0 ≤ b) (b1 : b < 2147483647) (hg : Grows news rest2) (hl : zs.length = i) (hz : ∀ z ∈ zs, SlotAt rest2 z) : SRJ2 L' l D o9 o2 o3 ys n0 news i zs n'
inductive SRJ3 (L' l D I C D2 : Addr) (o9 o2 o3 oI oC oD : Obj) (oy : Obj) (rest2 : List (Addr × Obj)) (k : Nat) (us : List Value) (n' : List (Addr × Obj)) : Prop
  | mk (a : Int) (ta : Tok) (b : Int) (tb : Tok) (n : Nat) (e : n' = (I, oI) :: (C, oC) :: (D2, oD) :: (D, oy) :: (L' + 1 + 1 + 1, o9) :: (L' + 1 + 1, o2) :: (L' + 1, o3) :: (l, listOf #[.int a ta, .int b tb] n) :: rest2)
    (a0 : 0 ≤ a) (b0 : 0 ≤ b) (b1 : b < 2147483647) (hl : us.length = k) (ms : List Int) (hm : IntsAre us ms) : SRJ3 L' l D I C D2 o9 o2 o3 oI oC oD oy rest2 k us n'
theorem c_scanRows {l lm : Addr} {a b : Int} {ta tb : Tok} {n nm : Nat} {vs : List Value} {rows : List (Int × Int × Int × Int)}
    (F : Fr h₀ L s.heap m) (B : Below A₀ base outer h₀) (X : (hd.heap_39 w.params).In h₀) (T : Top hd.view_39 (looseW hd.view_39 []) mean mg mb h₀)
    (hA : A.frames = some (env :: outer)) (hf : env.frame = some L) (hke : env.scope.kind = .function) (hh : A.handled = none) (hdp : A.depth ≤ 580) (hun : A.units ≤ 1800)
    (N : News h₀ L s.heap ((l, listOf #[.int a ta, .int b tb] n) :: news)) (hl : ∀ p ∈ news, p.1 ≠ l)
    (h0a : 0 ≤ a) (h0b : 0 ≤ b) (hb : b < 2147483647) (hm : (lm, listOf (List.toArray vs) nm) ∈ news) (hr : Paired (RowAt news) vs rows) (h1 : 1 ≤ rows.length) (h4 : rows.length ≤ 4)
    (hret : ∀ lr la lb lc (r : Int × Int × Int × Int) u0 u1 u2 u3 va vb vc nr na nb nc ids bs cs news' h' tk', Fr h₀ L h' m → News h₀ L h' news' → Grows news news' → (lr, listOf #[.ref la, .ref lb, .ref lc, .int r.1 u0, .int r.2.1 u1, .int r.2.2.1 u2, .int r.2.2.2 u3] nr) ∈ news' →
      (la, listOf (List.toArray va) na) ∈ news' → (lb, listOf (List.toArray vb) nb) ∈ news' → (lc, listOf (List.toArray vc) nc) ∈ news' → IntsAre va ids → IntsAre vb bs → IntsAre vc cs → va.length ≤ 3 → vb.length ≤ 3 → vc.length ≤ 3 → Q (.ref lr) { s with heap := h', toks := tk' }) :
    wpAny (model Challenge.rw_nz0252_01.row.prog w) A (call (.ref 389) [.ref l, .ref lm]) Q E s := by

  have hlv := hr.length
  revert X; k_fill; intro X
  refine up hdp hun hh hA ?_
  refine wpAny_call ?_
  k_dflt (refine' code_defC (binds := [(Str.ofString "source", .ref l), (Str.ofString "members", .ref lm)]) ?k1 ?k2 ?k3 ?k4 ?k5 ?kA ?kF ?kK ?k6 ?k7 ?k8 ?k9 ?kB ?kD ?_ ?c2 ?c3 ?c4; (case kA => exact rfl); (case kF => assumption); (case kK => assumption); (case k1 => k_asm); (case k2 => k_asm); (case k3 => k_asm); (case k4 => k_asm); (case k5 => k_asm); (case k6 => k_is); (case k7 => k_is); (case k8 => k_room); (case k9 => exact BindsTo.of_eq rfl); (case kB => exact rfl); (case kD => decide +kernel); (case c2 => exact rfl); (case c3 => exact rfl); (case c4 => exact rfl); k_whole; intro g' L' h' tk' cells' FG' F' N' Y' B' X' T' l1; (try k_lt l1); k_cells Y'; (try simp only [List.cons_append, List.nil_append] at N'); (try dsimp only); (try k_lift B'); (try k_fold))
  k_steps
  refine Stop.of ?_
  rename_i o1 o2 o3 d1 d2 d3
  have hlt : ∀ p ∈ news, p.1 < L' := tb_ltOf l1.2
  have e1 : o1.data = .cell none := d1
  have e2 : o2.data = .cell (some (.ref lm)) := d2
  have e3 : o3.data = .cell (some (.ref l)) := d3
  refine lc_rangeE (by k_asm) (fun n => 1 ≤ n ∧ n ≤ 3) (SRJ1 L' l o1 o2 o3 news)
    rfl ?_ (by with_unfolding_all rfl) (by decide) (by rfl) (by decide) (by rfl) ?_ ?_
  · k_steps
    rename IsRange _ _ _ _ _ _ _ _ => rg
    rename News _ _ _ _ => N4
    exact Stop.of ⟨_, _, _, _, _, _, (L' + 1 + 1 + 1, o1) :: (L' + 1 + 1, o2) :: (L' + 1, o3) :: (l, listOf #[.int _ _, .int _ _] _) :: news, rfl, _, _, rfl, by k_asm, N4, rg, rr_small (by omega) (by omega), rr_size (by omega) (by omega), by omega, ⟨by omega, by omega⟩,
      ⟨_, _, _, _, _, news, [], rfl, fun p hp => ⟨hl p hp, Nat.ne_of_lt (by have : @LT.lt Nat _ p.1 L' := hlt p hp; show @LT.lt Nat _ _ _; omega), Nat.ne_of_lt (by have : @LT.lt Nat _ p.1 L' := hlt p hp; show @LT.lt Nat _ _ _; omega), Nat.ne_of_lt (by have : @LT.lt Nat _ p.1 L' := hlt p hp; show @LT.lt Nat _ _ _; omega)⟩, by assumption, by assumption, by assumption, Grows.refl, .nil, rfl⟩⟩
  · rintro i t ys news₁ I oI C oC D m₂ h tk E' ⟨a, ta, b, tb, n2, rest, ns, rfl, hrest, a0, b0, b1, hg, hi, hlen⟩ hC hx F N off ne
    have hm2 := hg _ hm
    obtain ⟨q0, hq0⟩ : ∃ q0, rows[0]? = some q0 := ⟨rows[0], List.getElem?_eq_getElem (by omega)⟩
    obtain ⟨v0, hv0, x0, t00, t10, t20, t30, n0, rfl, hx0⟩ := paired_at2 hr hq0
    have hx02 := hg _ hx0
    have hv0' : vs[Int.toNat 0]? = some (.ref x0) := hv0
    k_steps
    refine Stop.of ?_
    refine lc_evalF (by k_asm) (ax := lm) (vs := vs) (k := nm) (news := (I, oI) :: (C, oC) :: (D, LCg.lst ys) :: (L' + 1 + 1 + 1, o1) :: (L' + 1 + 1, o2) :: (L' + 1, o3) :: (l, listOf #[.int a ta, .int b tb] n2) :: rest) (fun i zs n' => n' = (I, oI) :: (C, oC) :: (D, LCg.lst ys) :: (L' + 1 + 1 + 1, o1) :: (L' + 1 + 1, o2) :: (L' + 1, o3) :: (l, listOf #[.int a ta, .int b tb] n2) :: rest ∧ IntsAre zs ((rows.map (·.1)).take i)) (fun i v m₂ => m₂ (Str.ofString "part") = some v) (EndOk.ofNone rfl) ?_ (by k_mem) (by rw [sizeLine_eq]; omega) (by with_unfolding_all rfl) (by decide) (by rfl) (by decide) ⟨rfl, .nil⟩ ?_ ?_ ?_
    · k_steps
      all_goals k_asm
    · intro i v ys news' C m₀ s Q E' hv hJ F N hns hoff hCL hC₀ h
      exact asg_name hns rfl rfl h
    · rintro i v zs news₂ I2 oI2 C2 oC2 D2 m₃ h tk E' hv ⟨rfl, hp2⟩ hm' hC2 hone2 F N off2 ne2
      obtain ⟨qi, hqi, x', t0', t1', t2', t3', n', rfl, hx'⟩ := paired_at hr hv
      have hx2 := hg _ hx'
      k_steps
      rename News _ _ _ _ => N4
      have hqi2 : (rows.map (·.1))[i]? = some qi.1 := by rw [List.getElem?_map, hqi]; rfl
      exact LCg.CompEnd.intro (by k_asm) N4 _
        (List.forall_mem_cons.mpr ⟨by k_mem, List.forall_mem_cons.mpr ⟨by k_mem, List.forall_mem_cons.mpr ⟨by k_mem, fun p hp => by repeat (first | exact hp | refine List.Mem.tail _ ?_)⟩⟩⟩)
          off2 hm' ⟨rfl, ints_take hqi2 hp2 _⟩
    · rintro D2 zs news₂ h tk ⟨rfl, hp2⟩ F N hoff2
      rw [hlv, ← List.length_map (f := fun r : Int × Int × Int × Int => r.1), List.take_length] at hp2
      have nl2 : @Ne Nat l D2 := hoff2 (l, listOf #[.int a ta, .int b tb] n2) (by k_mem)
      have nl3 := off.2.2.2.1
      have nr1 : ∀ p ∈ rest, p.1 ≠ l := fun p hp => (hrest p hp).1
      have hlL : @LT.lt Nat _ l L' := l1.1
      k_steps
      refine Stop.of ?_
      rename IntsAre _ (_ ++ _) => hI3
      refine' c_oneF (by k_asm) (by k_asm) (by k_asm) (by k_asm) (by exact rfl) (by first | exact rfl | assumption) (by first | exact rfl | assumption) (by exact rfl) (by exact Nat.le_of_ble_eq_true rfl) (by exact Nat.le_of_ble_eq_true rfl) (by k_asm) ?U ?z6 hI3 ?z8 ?z4 ?z5 ?z1 ?z2 ?z3 ?_; (case U => k_updF); (case z6 => k_mem); (case z8 => k_ne); (case z4 => simp); (case z5 => (simp; omega)); (case z1 => assumption); (case z2 => assumption); (case z3 => assumption)
      intro r t a' ta' b' tb' n' h' tk' F' N' e1 e3 e4 e5
      k_steps
      rename News _ _ _ _ => N4
      exact LCg.CompEnd.intro (by k_asm) N4 ((L' + 1 + 1 + 1, o1) :: (L' + 1 + 1, o2) :: (L' + 1, o3) :: (l, listOf #[.int a' ta', .int b' tb'] n') :: rest)
        (List.forall_mem_cons.mpr ⟨by k_mem, List.forall_mem_cons.mpr ⟨by k_mem, List.forall_mem_cons.mpr ⟨by k_mem, fun p hp => by repeat (first | exact hp | refine List.Mem.tail _ ?_)⟩⟩⟩)
          off trivial ⟨_, _, _, _, _, _, _, rfl, hrest, e3, e4, e5, hg, hi.append (.cons _ _ .nil), by rw [List.length_append, hlen]; rfl⟩
  · rintro n0 D ys news' h tk hP ⟨a, ta, b, tb, n2, rest, ns, rfl, hrest, a0, b0, b1, hg, hi, hlen⟩ F N hoff
    rw [hlen] at N
    have nD1 : @Ne Nat (L' + 1 + 1 + 1) D := hoff (L' + 1 + 1 + 1, o1) (.head _)
    have nD2 : @Ne Nat (L' + 1 + 1) D := hoff (L' + 1 + 1, o2) (.tail _ (.head _))
    have nD3 : @Ne Nat (L' + 1) D := hoff (L' + 1, o3) (.tail _ (.tail _ (.head _)))
    have nD4 : @Ne Nat l D := hoff (l, listOf #[.int a ta, .int b tb] n2) (.tail _ (.tail _ (.tail _ (.head _))))
    have nDr : ∀ p ∈ rest, p.1 ≠ D := fun p hp => hoff p (.tail _ (.tail _ (.tail _ (.tail _ hp))))
    have nr1 : ∀ p ∈ rest, p.1 ≠ l := fun p hp => (hrest p hp).1
    have nr2 : ∀ p ∈ rest, p.1 ≠ L' + 1 := fun p hp => (hrest p hp).2.1
    have nr3 : ∀ p ∈ rest, p.1 ≠ L' + 1 + 1 := fun p hp => (hrest p hp).2.2.1
    have nr4 : ∀ p ∈ rest, p.1 ≠ L' + 1 + 1 + 1 := fun p hp => (hrest p hp).2.2.2
    have hlL : @LT.lt Nat _ l L' := l1.1
    k_steps
    refine Stop.of ?_
    rename_i h9 o9 F9 N9 d9
    refine lc_rangeL (by k_asm) (fun n => n = 2) (SRJ2 L' l D o9 o2 o3 ys n0 news)
      rfl (by rfl) ?_ (by with_unfolding_all rfl) (by with_unfolding_all rfl) (by decide) (by rfl) (by decide) (by rfl) (by rfl) (by rfl) ?_ ?_
    · k_steps
      rename IsRange _ _ _ _ _ _ _ _ => rg
      rename News _ _ _ _ => N4
      exact Stop.of ⟨_, _, _, _, _, 2, _, rfl, _, _, rfl, by k_asm, N4, rg, rfl, rfl, by omega, rfl, _, _, _, _, _, rest, rfl, fun p hp => ⟨nr1 p hp, nDr p hp, nr2 p hp, nr3 p hp, nr4 p hp⟩, a0, b0, b1, hg, rfl, fun _ h => nomatch h⟩
    · rintro i t zs news₁ I oI C oC D2 m₂ h tk E' ⟨a, ta, b, tb, n2, rest2, rfl, hrest2, a0, b0, b1, hg2, hzl, hzs⟩ hC hx F N off ne
      k_steps
      refine Stop.of ?_
      have oL := off.2.2.2.2.1
      have mr1 : ∀ p ∈ rest2, p.1 ≠ l := fun p hp => (hrest2 p hp).1
      refine lc_evalF (by k_asm) (ax := D) (vs := ys) (k := n0) (news := (I, oI) :: (C, oC) :: (D2, LCg.lst zs) :: (D, listOf (List.toArray ys) n0) :: (L' + 1 + 1 + 1, o9) :: (L' + 1 + 1, o2) :: (L' + 1, o3) :: (l, listOf #[.int a ta, .int b tb] n2) :: rest2) (SRJ3 L' l D I C D2 o9 o2 o3 oI oC (LCg.lst zs) (listOf (List.toArray ys) n0) rest2) (fun i v m₂ => m₂ (Str.ofString "ident") = some v) (EndOk.ofNone rfl) ?_ (by k_mem) (by rw [sizeLine_eq, hlen]; omega) (by with_unfolding_all rfl) (by decide) (by rfl) (by decide) ⟨_, _, _, _, _, rfl, a0, b0, b1, rfl, _, .nil⟩ ?_ ?_ ?_
      · k_steps
        all_goals k_asm
      · intro i v ys news' C m₀ s Q E' hv hJ F N hns hoff hCL hC₀ h
        exact asg_name hns rfl rfl h
      · rintro k v us news₂ I2 oI2 C2 oC2 D3 m₃ h tk E' hv ⟨a, ta, b, tb, n2, rfl, a0, b0, b1, hul, ms, hms⟩ hm' hC2 hone2 F N off2 ne2
        have oL2 := off2.2.2.2.2.2.2.2.1
        k_steps
        rename_i r9 t9 a9 ta9 b9 tb9 n9 h99 tk9 F99 N4 e1 e2 e3 e4 e5
        exact LCg.CompEnd.intro (by k_asm) N4 ((I, oI) :: (C, oC) :: (D2, LCg.lst zs) :: (D, listOf (List.toArray ys) n0) :: (L' + 1 + 1 + 1, o9) :: (L' + 1 + 1, o2) :: (L' + 1, o3) :: (l, listOf #[.int a9 ta9, .int b9 tb9] n9) :: rest2)
          (List.forall_mem_cons.mpr ⟨by k_mem, List.forall_mem_cons.mpr ⟨by k_mem, List.forall_mem_cons.mpr ⟨by k_mem, fun p hp => by repeat (first | exact hp | refine List.Mem.tail _ ?_)⟩⟩⟩)
          off2 (by k_mem) ⟨_, _, _, _, _, rfl, by assumption, by assumption, by assumption, by (rw [List.length_append, hul]; rfl), _, hms.append (.cons _ _ .nil)⟩
      · rintro D3 us news₂ h tk ⟨a, ta, b, tb, n2, rfl, a0, b0, b1, hul, ms, hms⟩ F N hoff2
        have qI : @Ne Nat D3 I := Ne.symm (hoff2 (I, oI) (by k_mem))
        have qC : @Ne Nat D3 C := Ne.symm (hoff2 (C, oC) (by k_mem))
        have qD : @Ne Nat D3 D2 := Ne.symm (hoff2 (D2, LCg.lst zs) (by k_mem))
        have q1 : @Ne Nat D3 D := Ne.symm (hoff2 (D, listOf (List.toArray ys) n0) (by k_mem))
        have q2 : @Ne Nat D3 (L' + 1 + 1 + 1) := Ne.symm (hoff2 (L' + 1 + 1 + 1, o9) (by k_mem))
        have q3 : @Ne Nat D3 (L' + 1 + 1) := Ne.symm (hoff2 (L' + 1 + 1, o2) (by k_mem))
        have q4 : @Ne Nat D3 (L' + 1) := Ne.symm (hoff2 (L' + 1, o3) (by k_mem))
        have q5 : @Ne Nat D3 l := Ne.symm (hoff2 (l, listOf #[.int a ta, .int b tb] n2) (by k_mem))
        have hsl : SlotAt ((D3, listOf (List.toArray us) us.length) :: rest2) (.ref D3) := ⟨D3, us, _, ms, rfl, .head _, hms, by omega⟩
        exact LCg.CompEnd.intro (by k_asm) N ((D, listOf (List.toArray ys) n0) :: (L' + 1 + 1 + 1, o9) :: (L' + 1 + 1, o2) :: (L' + 1, o3) :: (l, listOf #[.int a ta, .int b tb] n2) :: (D3, listOf (List.toArray us) us.length) :: rest2)
          (List.forall_mem_cons.mpr ⟨by k_mem, List.forall_mem_cons.mpr ⟨by k_mem, List.forall_mem_cons.mpr ⟨by k_mem, List.forall_mem_cons.mpr ⟨by k_mem, List.forall_mem_cons.mpr ⟨by k_mem, List.forall_mem_cons.mpr ⟨by k_mem, List.forall_mem_cons.mpr ⟨by k_mem, List.forall_mem_cons.mpr ⟨by k_mem, List.forall_mem_cons.mpr ⟨by k_mem, fun p hp => by repeat (first | exact hp | refine List.Mem.tail _ ?_)⟩⟩⟩⟩⟩⟩⟩⟩⟩)
          ⟨off.1, off.2.1, off.2.2.1, off.2.2.2.1, off.2.2.2.2.1, ⟨qI, qC, qD⟩, off.2.2.2.2.2⟩ trivial
          ⟨_, _, _, _, _, _, rfl, List.forall_mem_cons.mpr ⟨⟨q5, q1, q4, q3, q2⟩, hrest2⟩, a0, b0, b1, hg2.cons, by (rw [List.length_append, hzl]; rfl), fun z hz => by
            rcases List.mem_append.mp hz with hz | hz
            · exact (hzs z hz).sub fun _ h => .tail _ h
            · rw [List.mem_singleton.mp hz]; exact hsl⟩
    · rintro n D2 zs news' h tk rfl ⟨a, ta, b, tb, n2, rest2, rfl, hrest2, a0, b0, b1, hg2, hzl, hzs⟩ F N hoff
      obtain ⟨z0, z1, rfl⟩ : ∃ z0 z1, zs = [z0, z1] := by
        match zs, hzl with
        | [z0, z1], _ => exact ⟨z0, z1, rfl⟩
      obtain ⟨lb, vb, nb, bs, rfl, hlb, hbi, hb3⟩ := hzs z0 (.head _)
      obtain ⟨lc, vc, nc, cs, rfl, hlc, hci, hc3⟩ := hzs z1 (.tail _ (.head _))
      have mD1 : @Ne Nat l D2 := hoff (l, listOf #[.int a ta, .int b tb] n2) (by k_mem)
      have mr1 : ∀ p ∈ rest2, p.1 ≠ l := fun p hp => (hrest2 p hp).1
      k_steps
      rename News _ _ _ _ => N4
      exact hret _ D lb lc (_, _, _, _) _ _ _ _ ys vb vc _ _ _ _ _ _ _ _ _ _ (by k_asm) N4 (fun p hp => by (have hz := hg2 p hp; repeat (first | exact hz | refine List.Mem.tail _ ?_))) (.head _) (by k_mem) (by k_mem) (by k_mem) hi hbi hci (by omega) hb3 hc3
end
end
section
section
variable {w : World} {A A₀ : Around} {base h₀ : Heap} {outer : List Env} {env : Env} {L : Addr} {m : Str → Option Value} {s : Shared} {news : List (Addr × Obj)} {mg mb : Str → Option Value} {mean : ExcName → Option Value}
  {Q E : Value → Shared → Prop}
local macro_rules | `(tactic| walk_at "exec Try") => `(tactic| (refine Stop.to ?_))
local macro_rules | `(tactic| walk_at "exec For Name Call cons nil") => `(tactic| (refine Stop.to ?_))
local macro_rules | `(tactic| walk_at "pyIter ref") => `(tactic| ((with_reducible show wpAny _ _ (pyIter (Value.ref _)) (fun it s₂ => LoopAtV _ _ _ _ _ _ _ _ _ it s₂) _ _); refine Stop.to ?_))
local macro_rules | `(tactic| walk_at "assign Tuple") => `(tactic| (k_here; (with_reducible show wpAny _ _ (assign (Expr.Tuple _ _ _) _ (Value.ref _)) _ _ _); k_dflt (refine' unpE (EndOk.ofNone rfl) ?F ?N ?M ?k5 ?k6 ?_; (case F => k_asm); (case N => k_asm); (case M => k_mem); (case k5 => exact rfl); (case k6 => exact rfl)); intro h' he' F' N'; (try k_sweep)))
theorem unturn {g g' h : Heap} (kt : KtsTurn [] g g') (F : Fr g' L h m) : Fr g L h m := ⟨F.ns, fun b o e => F.keep b o (kt.other b o e (fun q => nomatch q)), by rw [← kt.size]; exact F.above⟩
theorem unturnN {g g' h : Heap} (kt : KtsTurn [] g g') (N : News g' L h news) : News g L h news := fun p hp => ⟨(N p hp).1, (N p hp).2.1, by
  cases q : g.get? p.1 with
  | none => rfl
  | some o => have := (N p hp).2.2; rw [kt.other _ _ q (fun q => nomatch q)] at this; cases this⟩
theorem cls_ref {C dx : Addr} : (instObj C dx).cls ≠ .type "list" := by intro h; cases h
theorem cls_dict {es : List DictEntry} {n : Nat} : (dictOf es n).cls ≠ .type "list" := by intro h; injection h with h; exact absurd h (by decide)
theorem CompAt.off {C : Addr} {a b : List (Addr × Obj)} {v : Value} {q} (x : CompAt w C a v q) (s : ∀ p ∈ a, p.2.cls ≠ .type "list" → p ∈ b) : CompAt w C b v q :=
  let ⟨x, dx, k0, t0, k1, t1, k2, t2, k3, t3, e, h1, h2⟩ := x; ⟨x, dx, k0, t0, k1, t1, k2, t2, k3, t3, e, s _ h1 cls_ref, s _ h2 cls_dict⟩
theorem FrameAt.off {a b : List (Addr × Obj)} {v : Value} {kind : Str} {p h wd n : Int} {lc : Addr} (x : FrameAt w a v kind p h wd lc n) (s : ∀ p ∈ a, p.2.cls ≠ .type "list" → p ∈ b) : FrameAt w b v kind p h wd lc n :=
  let ⟨x, dx, k0, t0, k1, t1, k2, t2, k3, t3, k4, k5, t5, e, h1, h2⟩ := x; ⟨x, dx, k0, t0, k1, t1, k2, t2, k3, t3, k4, k5, t5, e, s _ h1 cls_ref, s _ h2 cls_dict⟩
theorem list_off {C l lc : Addr} {a0 b0 : Int} {ta tb : Tok} {n k : Nat} {h : Heap} {ys : List Value} {rows : List (Int × Int × Int × Int)} (N : News h₀ L h news) (hs : (l, listOf #[.int a0 ta, .int b0 tb] n) ∈ news) (hl : (lc, listOf (List.toArray ys) k) ∈ news) (hc : Paired (CompAt w C news) ys rows) (h1 : 1 ≤ rows.length) : lc ≠ l := by
  rintro rfl
  have e := (N _ hs).1.symm.trans (N _ hl).1
  have e2 : listOf #[.int a0 ta, .int b0 tb] n = listOf (List.toArray ys) k := Option.some.inj e
  have e3 : (listOf #[.int a0 ta, .int b0 tb] n).data = (listOf (List.toArray ys) k).data := by rw [e2]
  cases hc with
  | nil => simp at h1
  | cons hv _ =>
    obtain ⟨x, _, _, _, _, _, _, _, _, _, rfl, _⟩ := hv
    injection e3 with e4 e5
    have := congrArg Array.toList e4
    simp at this
set_option maxHeartbeats 8000000 in
theorem law_holds : PySem.Challenge.rw_nz0252_01.Holds := hd (by rfl) (by rfl) (by rfl) (by
  (first | (k_go0; fail) | skip); k_go0; (all_goals try k_fold); (all_goals k_steps); (all_goals refine Stop.of ?_)
  (rename Fr _ _ _ _ => lF'); (with_unfolding_all refine' For_invVF lF' ?k1 ?k2 ?_; (case k1 => exact rfl); (case k2 => exact rfl))
  k_steps
  refine Stop.of ?_
  rename Below _ _ _ _ => K0
  rename IntsAre _ _ => hI
  rename Heap.IsList _ _ _ => hL
  rename IsRange _ _ _ _ _ _ _ _ => rg
  rename News _ _ _ _ => N4
  rename Fr _ _ _ _ => F4
  rename Top _ _ _ _ _ _ => T0
  rename Frag.In _ _ => X0
  obtain ⟨b, hb0, rg⟩ : ∃ b : Int, (0 ≤ b ∧ b ≤ 2) ∧ IsRange _ _ 0 b 1 _ _ _ := ⟨_, by (constructor <;> (repeat' split) <;> omega), rg⟩
  refine iter_R (r := _) (n := b.toNat) (news := []) [Str.ofString "k", Str.ofString "source", Str.ofString "first", Str.ofString "members", Str.ofString "side", Str.ofString "frame"] (fun i n' => True) (by exact rfl) rg (rr_small hb0.1 (by omega)) (rr_size hb0.1 (by omega)) F4 N4 trivial rfl ?_ ?_
  · rintro i t u news₁ I it h tk hi - hoff F N
    k_steps
    refine Stop.of ?_
    refine c_pool (by k_asm) (by k_asm) (by k_asm) (by k_asm) (by exact rfl) (by first | exact rfl | assumption) (by first | exact rfl | assumption) (by exact rfl) (by exact Nat.le_of_ble_eq_true rfl) (by exact Nat.le_of_ble_eq_true rfl) (by k_asm) hL hI (by omega) (by omega) (by omega) ?_
    rintro r a ta b2 tb n2 h2 tk2 F2 N2 hr0 a0 b0 b1
    k_steps
    refine Stop.of ?_
    refine c_rows (by k_asm) (by k_asm) (by k_asm) (by k_asm) (by exact rfl) (by first | exact rfl | assumption) (by first | exact rfl | assumption) (by exact rfl) (by exact Nat.le_of_ble_eq_true rfl) (by exact Nat.le_of_ble_eq_true rfl) (by k_asm) hr0 a0 b0 b1 ?_
    rintro rr lf lm vs nm nr q rows a' ta' b' tb' n' rest h3 tk3 F3 N3 hrl a0' b0' b1' hg hrr ⟨l0, f0, f1, f2, f3, nf, e0, hlf⟩ hm hpr h1 h4
    cases e0
    have hI2 := hg _ (.head _)
    k_steps
    refine Stop.of ?_
    rename_i a7 ta7 b7 tb7 n7 h7 tk7 e1 e2 e3 e4 e5 h8 F8 N8
    refine wpAny_Try_except ?_
    k_steps
    refine Stop.of ?_
    have hpr2 := paired_imp (fun _ _ x => RowAt.sub (b := (r, listOf #[.int a7 ta7, .int b7 tb7] n7) :: rest) x fun _ h => .tail _ h) hpr
    refine c_head (by k_asm) (by k_asm) (by k_asm) (by k_asm) (by exact rfl) (by first | exact rfl | assumption) (by first | exact rfl | assumption) (by exact rfl) (by exact Nat.le_of_ble_eq_true rfl) (by exact Nat.le_of_ble_eq_true rfl) (by k_asm) (.tail _ hlf) (.tail _ hm) hpr2 h4 ?_
    rintro v lc ys news9 h9 tk9 F9 N9 hg9 hv hl hc
    k_steps
    refine Stop.of ?_
    refine c_fromHead (by k_asm) (by k_asm) (by k_asm) (by k_asm) (by exact rfl) (by first | exact rfl | assumption) (by first | exact rfl | assumption) (by exact rfl) (by exact Nat.le_of_ble_eq_true rfl) (by exact Nat.le_of_ble_eq_true rfl) (by k_asm) hv hl hc h1 h4 ?_ ?_
    · rintro v2 nm2 ps lc2 ys2 news2 h10 tk10 hk hfo F10 N10 hg10 hvf hl2 hc2
      k_steps
      refine Stop.of ?_
      have hgr : ∀ p ∈ (r, listOf #[.int a7 ta7, .int b7 tb7] n7) :: rest, p ∈ news2 := fun p hp => hg10 p (hg9 p hp)
      have hpr3 := paired_imp (fun _ _ x => RowAt.sub (b := news2) x fun p h => hgr p (.tail _ h)) hpr
      refine c_isLet (by k_asm) (by k_asm) (by k_asm) (by k_asm) (by exact rfl) (by first | exact rfl | assumption) (by first | exact rfl | assumption) (by first | exact HS.ofNone rfl | exact HS.ofAny (by assumption) (by k_asm) (by k_asm)) (by exact Nat.le_of_ble_eq_true rfl) (by exact Nat.le_of_ble_eq_true rfl) (by k_asm) (hgr _ (.tail _ hlf)) (hgr _ (.tail _ hm)) hpr3 h4 ?_
      rintro news3 h11 tk11 F11 N11 hg11
      have hok : headOk q rows = true := by simp [headOk, hk, hfo]
      rw [hok]
      k_steps
      refine Stop.of ?_
      have hpr4 := paired_imp (fun _ _ x => RowAt.sub (b := news3) x fun p h => hg11 p h) hpr3
      refine c_frameRight (by k_asm) (by k_asm) (by k_asm) (by k_asm) (by exact rfl) (by first | exact rfl | assumption) (by first | exact rfl | assumption) (by exact rfl) (by exact Nat.le_of_ble_eq_true rfl) (by exact Nat.le_of_ble_eq_true rfl) (by k_asm) (hvf.sub hg11) hk (let ⟨n, e⟩ := hl2; ⟨n, hg11 _ e⟩) (paired_imp (fun _ _ x => x.sub hg11) hc2) (hg11 _ (hgr _ (.tail _ hlf))) (hg11 _ (hgr _ (.tail _ hm))) hpr4 h4 ?_
      rintro news4 h12 tk12 F12 N12 hg12
      k_steps
      refine Stop.of ?_
      obtain ⟨p1, p2, p3⟩ := pick news4 r
      have hr12 : (r, listOf #[.int a7 ta7, .int b7 tb7] n7) ∈ news4 := hg12 _ (hg11 _ (hgr _ (.head _)))
      have hrest : ∀ p ∈ rest, p ∈ news4.filter (fun p => p.1 ≠ r) := fun p hp => p3 _ (hg12 _ (hg11 _ (hgr _ (.tail _ hp)))) (hrl p hp)
      have hoffr : ∀ p ∈ news4, p.2.cls ≠ .type "list" → p ∈ news4.filter (fun p => p.1 ≠ r) := fun p hp hc => p3 _ hp fun q => hc (by
        have e1 := (N12 _ hp).1
        have e2 := (N12 _ hr12).1
        rw [q, e2] at e1
        rw [← Option.some.inj e1])
      obtain ⟨nl2, hl2⟩ := hl2
      have hc12 := paired_imp (fun _ _ x => CompAt.sub (b := news4) x fun p h => hg12 p (hg11 p h)) hc2
      have hnl := list_off N12 hr12 (hg12 _ (hg11 _ hl2)) hc12 h1
      refine c_scanRows (news := news4.filter (fun p => p.1 ≠ r)) (by k_asm) (by k_asm) (by k_asm) (by k_asm) (by exact rfl) (by first | exact rfl | assumption) (by first | exact rfl | assumption) (by exact rfl) (by exact Nat.le_of_ble_eq_true rfl) (by exact Nat.le_of_ble_eq_true rfl) (List.forall_mem_cons.mpr ⟨N12 _ hr12, fun p hp => N12 p (p1 p hp)⟩) p2 (by assumption) (by assumption) (by assumption) (hrest _ hm) (paired_imp (fun _ _ x => RowAt.sub x hrest) hpr) h1 h4 ?_
      rintro lr la lb lc' rr' u0 u1 u2 u3 va vb vc nr' na nb nc ids bs cs news5 h13 tk13 F13 N13 hg13 hlr hla hlb hlc hia hib hic za zb zc
      k_steps
      refine Stop.of ?_
      refine c_scanRight (by k_asm) (by k_asm) (by k_asm) (by k_asm) (by exact rfl) (by first | exact rfl | assumption) (by first | exact rfl | assumption) (by exact rfl) (by exact Nat.le_of_ble_eq_true rfl) (by exact Nat.le_of_ble_eq_true rfl) rfl ⟨X0, T0⟩ (by k_asm) hlr hla hlb hlc hia hib hic (by omega) (by omega) (by omega) (hg13 _ (hrest _ hm)) (paired_imp (fun _ _ x => RowAt.sub x fun p hp => hg13 _ (hrest p hp)) hpr) h4
        (FrameAt.sub (FrameAt.off (hvf.sub fun p h => hg12 p (hg11 p h)) hoffr) hg13) ⟨_, hg13 _ (p3 _ (hg12 _ (hg11 _ hl2)) hnl)⟩ (paired_imp (fun _ _ x => CompAt.sub (CompAt.off x hoffr) hg13) hc12) ?_
      rintro h14 tk14 F14 N14
      k_steps
      exact ⟨_, _, _, [], rfl, by k_asm, List.forall_mem_cons.mpr ⟨N14 _ (hg13 _ (hrest _ hI2)), by intro p hp; cases hp⟩, by (intro p hp; cases hp), by (repeat (first | exact off_over | refine off_if (by decide) ?_)), trivial⟩
    · rintro G e h10 tk10 hno FG hR hU
      refine catch_x hR (.inl rfl) FG K0 hU X0 T0 rfl ?_ ?_
      · intro s₁ g₁ Q₁ F1 X1 T1 hq
        k_steps
        all_goals exact hq
      · rintro h' g' kt F' N' B' X' T' ⟨hge, oe, vs', hoe, hod, hv2⟩ hne
        have F0 := unturn kt F'
        have N0 := unturnN kt N'
        clear F' N' B' X' T' kt
        k_steps
        refine Stop.of ?_
        have hgr : ∀ p ∈ (r, listOf #[.int a7 ta7, .int b7 tb7] n7) :: rest, p ∈ news9 := fun p hp => hg9 p hp
        have hpr3 := paired_imp (fun _ _ x => RowAt.sub (b := news9) x fun p h => hgr p (.tail _ h)) hpr
        refine c_isLet (by k_asm) (by k_asm) (by k_asm) (by k_asm) (by exact rfl) (by first | exact rfl | assumption) (by first | exact rfl | assumption) (.inr ⟨e, oe, vs', rfl, hoe, hod, hv2, hne⟩) (by exact Nat.le_of_ble_eq_true rfl) (by exact Nat.le_of_ble_eq_true rfl) (by k_asm) (hgr _ (.tail _ hlf)) (hgr _ (.tail _ hm)) hpr3 h4 ?_
        rintro news3 h11 tk11 F11 N11 hg11
        rw [hno]
        k_steps
        exact ⟨_, _, _, [], rfl, by k_asm, List.forall_mem_cons.mpr ⟨N11 _ (hg11 _ (hgr _ (.tail _ hI2))), by intro p hp; cases hp⟩, by (intro p hp; cases hp), by (repeat (first | exact off_over | refine off_if (by decide) ?_)), trivial⟩
  · rintro u news₁ h tk - F N
    k_steps)
end
end
end
end Mine
theorem PySem.Challenge.cw_nz0252_01_holds : PySem.Challenge.rw_nz0252_01.Holds := by
  exact Mine.law_holds
