import PyProof.Rows.All
import Wide.All
import OpenK.AllK
import Wide.FinOn
import Lean
import PySem.Challenge.RW_rh0209_01
set_option Elab.async false
section
open PySem PySem.W PyProof.Rows
set_option maxRecDepth 100000
set_option maxHeartbeats 8000000
namespace Mine
/-- the row's own statements -/
abbrev rowBody : List Stmt := PySem.Challenge.rw_rh0209_01.prog.main.body
def stmtAt : List Stmt → Nat → Stmt
  | [], _ => .Pass ⟨0, 0, 0, 0⟩
  | s :: _, 0 => s
  | _ :: r, n + 1 => stmtAt r n
def fnParams : Stmt → Arguments
  | .FunctionDef _ p _ _ _ _ _ _ _ _ => p
  | _ => ⟨[], [], none, [], [], none, []⟩
def fnBody : Stmt → FuncBody
  | .FunctionDef _ _ b _ _ _ _ _ _ _ => .stmts b
  | _ => .stmts []
def fnScope : Stmt → Scope
  | .FunctionDef _ _ _ _ _ _ s _ _ _ => s
  | _ => { kind := .function, names := [], isGenerator := false, isCoroutine := false }
/-- the statements that the walk reads by name -/
def hd.view_39 : Program := { PySem.Challenge.rw_rh0209_01.prog with main := { PySem.Challenge.rw_rh0209_01.prog.main with body := [1, 2, 4, 5, 6, 8, 9, 10, 11, 14, 15, 16, 17, 19, 20, 22, 23, 24, 25, 26, 28, 30, 32, 33, 34, 35, 36, 37, 38, 39, 40, 41, 43, 44, 45, 46, 47, 48, 49, 50, 51, 52, 53, 54, 55, 56, 57, 59, 60].map (stmtAt rowBody) } }
/-- what stands in the heap behind the top: the objects that the walk reads -/
noncomputable def hd.heap_39 : Params → Frag := by
  intro P
  refine (fun (p21 : Arguments) (b21 : FuncBody) (s21 : Scope) (p29 : Arguments) (b29 : FuncBody) (s29 : Scope) (p36 : Arguments) (b36 : FuncBody) (s36 : Scope) (p43 : Arguments) (b43 : FuncBody) (s43 : Scope) (p50 : Arguments) (b50 : FuncBody) (s50 : Scope) (p56 : Arguments) (b56 : FuncBody) (s56 : Scope) (p77 : Arguments) (b77 : FuncBody) (s77 : Scope) (p114 : Arguments) (b114 : FuncBody) (s114 : Scope) (p121 : Arguments) (b121 : FuncBody) (s121 : Scope) (p128 : Arguments) (b128 : FuncBody) (s128 : Scope) (p142 : Arguments) (b142 : FuncBody) (s142 : Scope) (p149 : Arguments) (b149 : FuncBody) (s149 : Scope) (p200 : Arguments) (b200 : FuncBody) (s200 : Scope) (p205 : Arguments) (b205 : FuncBody) (s205 : Scope) (p212 : Arguments) (b212 : FuncBody) (s212 : Scope) (p219 : Arguments) (b219 : FuncBody) (s219 : Scope) (p226 : Arguments) (b226 : FuncBody) (s226 : Scope) (p233 : Arguments) (b233 : FuncBody) (s233 : Scope) (p240 : Arguments) (b240 : FuncBody) (s240 : Scope) (p245 : Arguments) (b245 : FuncBody) (s245 : Scope)
    (_ : p21 = fnParams (stmtAt rowBody 2)) (_ : b21 = fnBody (stmtAt rowBody 2)) (_ : s21 = fnScope (stmtAt rowBody 2)) (_ : p29 = fnParams (stmtAt rowBody 5)) (_ : b29 = fnBody (stmtAt rowBody 5)) (_ : s29 = fnScope (stmtAt rowBody 5)) (_ : p36 = fnParams (stmtAt rowBody 6)) (_ : b36 = fnBody (stmtAt rowBody 6)) (_ : s36 = fnScope (stmtAt rowBody 6)) (_ : p43 = fnParams (stmtAt rowBody 10)) (_ : b43 = fnBody (stmtAt rowBody 10)) (_ : s43 = fnScope (stmtAt rowBody 10)) (_ : p50 = fnParams (stmtAt rowBody 11)) (_ : b50 = fnBody (stmtAt rowBody 11)) (_ : s50 = fnScope (stmtAt rowBody 11)) (_ : p56 = fnParams (stmtAt rowBody 12)) (_ : b56 = fnBody (stmtAt rowBody 12)) (_ : s56 = fnScope (stmtAt rowBody 12)) (_ : p77 = fnParams (stmtAt rowBody 17)) (_ : b77 = fnBody (stmtAt rowBody 17)) (_ : s77 = fnScope (stmtAt rowBody 17)) (_ : p114 = fnParams (stmtAt rowBody 22)) (_ : b114 = fnBody (stmtAt rowBody 22)) (_ : s114 = fnScope (stmtAt rowBody 22)) (_ : p121 = fnParams (stmtAt rowBody 23)) (_ : b121 = fnBody (stmtAt rowBody 23)) (_ : s121 = fnScope (stmtAt rowBody 23)) (_ : p128 = fnParams (stmtAt rowBody 24)) (_ : b128 = fnBody (stmtAt rowBody 24)) (_ : s128 = fnScope (stmtAt rowBody 24)) (_ : p142 = fnParams (stmtAt rowBody 26)) (_ : b142 = fnBody (stmtAt rowBody 26)) (_ : s142 = fnScope (stmtAt rowBody 26)) (_ : p149 = fnParams (stmtAt rowBody 28)) (_ : b149 = fnBody (stmtAt rowBody 28)) (_ : s149 = fnScope (stmtAt rowBody 28)) (_ : p200 = fnParams (stmtAt rowBody 52)) (_ : b200 = fnBody (stmtAt rowBody 52)) (_ : s200 = fnScope (stmtAt rowBody 52)) (_ : p205 = fnParams (stmtAt rowBody 53)) (_ : b205 = fnBody (stmtAt rowBody 53)) (_ : s205 = fnScope (stmtAt rowBody 53)) (_ : p212 = fnParams (stmtAt rowBody 54)) (_ : b212 = fnBody (stmtAt rowBody 54)) (_ : s212 = fnScope (stmtAt rowBody 54)) (_ : p219 = fnParams (stmtAt rowBody 55)) (_ : b219 = fnBody (stmtAt rowBody 55)) (_ : s219 = fnScope (stmtAt rowBody 55)) (_ : p226 = fnParams (stmtAt rowBody 56)) (_ : b226 = fnBody (stmtAt rowBody 56)) (_ : s226 = fnScope (stmtAt rowBody 56)) (_ : p233 = fnParams (stmtAt rowBody 57)) (_ : b233 = fnBody (stmtAt rowBody 57)) (_ : s233 = fnScope (stmtAt rowBody 57)) (_ : p240 = fnParams (stmtAt rowBody 59)) (_ : b240 = fnBody (stmtAt rowBody 59)) (_ : s240 = fnScope (stmtAt rowBody 59)) (_ : p245 = fnParams (stmtAt rowBody 60)) (_ : b245 = fnBody (stmtAt rowBody 60)) (_ : s245 = fnScope (stmtAt rowBody 60)) => (
    (nat_lit 2, { cls := Value.none, data := Data.dict #[{ hash := PyData.keyHash P (Str.ofString "type.__subclasses__.Exception.0"), key := Value.str (Str.ofString "type.__subclasses__.Exception.0") 318, val := Value.int 94 0 }, { hash := PyData.keyHash P (Str.ofString "type.__subclasses__.Exception.n"), key := Value.str (Str.ofString "type.__subclasses__.Exception.n") 319, val := Value.int 1 0 }] 2 }) ::
    (nat_lit 3, { cls := Value.type "dict", data := Data.dict (List.toArray ({ hash := PyData.keyHash P (Str.ofString "__name__"), key := Value.str (Str.ofString "__name__") 165, val := Value.str (Str.ofString "law_rh0209_01") 536 } :: { hash := PyData.keyHash P (Str.ofString "__doc__"), key := Value.str (Str.ofString "__doc__") 166, val := Value.none } :: { hash := PyData.keyHash P (Str.ofString "__package__"), key := Value.str (Str.ofString "__package__") 167, val := Value.none } :: { hash := PyData.keyHash P (Str.ofString "__loader__"), key := Value.str (Str.ofString "__loader__") 168, val := Value.builtin "__main__.__loader__#opaque" } :: { hash := PyData.keyHash P (Str.ofString "__spec__"), key := Value.str (Str.ofString "__spec__") 169, val := Value.none } :: { hash := PyData.keyHash P (Str.ofString "__annotations__"), key := Value.str (Str.ofString "__annotations__") 170, val := Value.ref 6 } :: { hash := PyData.keyHash P (Str.ofString "__builtins__"), key := Value.str (Str.ofString "__builtins__") 171, val := Value.ref 4 } :: { hash := PyData.keyHash P (Str.ofString "__file__"), key := Value.str (Str.ofString "__file__") 173, val := Value.str (Str.ofString "/claim/cut.py") 172 } :: { hash := PyData.keyHash P (Str.ofString "__cached__"), key := Value.str (Str.ofString "__cached__") 174, val := Value.none } :: { hash := PyData.keyHash P (Str.ofString "E_BIT"), key := Value.str (Str.ofString "E_BIT") 190, val := Value.int 2 189 } :: { hash := PyData.keyHash P (Str.ofString "hello_of"), key := Value.str (Str.ofString "hello_of") 199, val := Value.ref 21 } :: { hash := PyData.keyHash P (Str.ofString "STATES"), key := Value.str (Str.ofString "STATES") 210, val := Value.ref 22 } :: { hash := PyData.keyHash P (Str.ofString "is_at_least"), key := Value.str (Str.ofString "is_at_least") 218, val := Value.ref 29 } :: { hash := PyData.keyHash P (Str.ofString "is_told"), key := Value.str (Str.ofString "is_told") 225, val := Value.ref 36 } :: { hash := PyData.keyHash P (Str.ofString "SEND_DELAY"), key := Value.str (Str.ofString "SEND_DELAY") 229, val := Value.int 1 228 } :: { hash := PyData.keyHash P (Str.ofString "MOST_NAMED"), key := Value.str (Str.ofString "MOST_NAMED") 231, val := Value.int 16367 230 } :: { hash := PyData.keyHash P (Str.ofString "new_iface"), key := Value.str (Str.ofString "new_iface") 240, val := Value.ref 43 } :: { hash := PyData.keyHash P (Str.ofString "hello_view"), key := Value.str (Str.ofString "hello_view") 248, val := Value.ref 50 } :: { hash := PyData.keyHash P (Str.ofString "own_hello"), key := Value.str (Str.ofString "own_hello") 254, val := Value.ref 56 } :: { hash := PyData.keyHash P (Str.ofString "MODULUS"), key := Value.str (Str.ofString "MODULUS") 258, val := Value.int 255 257 } :: { hash := PyData.keyHash P (Str.ofString "fletcher_pair"), key := Value.str (Str.ofString "fletcher_pair") 268, val := Value.ref 63 } :: { hash := PyData.keyHash P (Str.ofString "fletcher_sum"), key := Value.str (Str.ofString "fletcher_sum") 280, val := Value.ref 70 } :: { hash := PyData.keyHash P (Str.ofString "internet_sum"), key := Value.str (Str.ofString "internet_sum") 290, val := Value.ref 77 } :: { hash := PyData.keyHash P (Str.ofString "RouteError"), key := Value.str (Str.ofString "RouteError") 321, val := Value.ref 94 } :: { hash := PyData.keyHash P (Str.ofString "ConfigError"), key := Value.str (Str.ofString "ConfigError") 337, val := Value.ref 107 } :: { hash := PyData.keyHash P (Str.ofString "put_number"), key := Value.str (Str.ofString "put_number") 345, val := Value.ref 114 } :: { hash := PyData.keyHash P (Str.ofString "put_u8"), key := Value.str (Str.ofString "put_u8") 352, val := Value.ref 121 } :: { hash := PyData.keyHash P (Str.ofString "put_u16"), key := Value.str (Str.ofString "put_u16") 359, val := Value.ref 128 } :: { hash := PyData.keyHash P (Str.ofString "put_u24"), key := Value.str (Str.ofString "put_u24") 366, val := Value.ref 135 } :: { hash := PyData.keyHash P (Str.ofString "put_u32"), key := Value.str (Str.ofString "put_u32") 373, val := Value.ref 142 } :: { hash := PyData.keyHash P (Str.ofString "mask_of"), key := Value.str (Str.ofString "mask_of") 383, val := Value.ref 149 } :: { hash := PyData.keyHash P (Str.ofString "seq_octets_number"), key := Value.str (Str.ofString "seq_octets_number") 392, val := Value.ref 156 } :: { hash := PyData.keyHash P (Str.ofString "BITS"), key := Value.str (Str.ofString "BITS") 396, val := Value.int 32 395 } :: { hash := PyData.keyHash P (Str.ofString "HEAD_SIZE"), key := Value.str (Str.ofString "HEAD_SIZE") 398, val := Value.int 20 397 } :: { hash := PyData.keyHash P (Str.ofString "SUM_PLACE"), key := Value.str (Str.ofString "SUM_PLACE") 400, val := Value.int 14 399 } :: { hash := PyData.keyHash P (Str.ofString "AGE_SIZE"), key := Value.str (Str.ofString "AGE_SIZE") 402, val := Value.int 2 401 } :: { hash := PyData.keyHash P (Str.ofString "TYPE_TWO"), key := Value.str (Str.ofString "TYPE_TWO") 404, val := Value.int 128 403 } :: { hash := PyData.keyHash P (Str.ofString "put_link"), key := Value.str (Str.ofString "put_link") 415, val := Value.ref 163 } :: { hash := PyData.keyHash P (Str.ofString "put_body"), key := Value.str (Str.ofString "put_body") 421, val := Value.ref 168 } :: { hash := PyData.keyHash P (Str.ofString "put_head"), key := Value.str (Str.ofString "put_head") 438, val := Value.ref 175 } :: { hash := PyData.keyHash P (Str.ofString "total_of"), key := Value.str (Str.ofString "total_of") 446, val := Value.ref 182 } :: { hash := PyData.keyHash P (Str.ofString "put_lsa"), key := Value.str (Str.ofString "put_lsa") 455, val := Value.ref 189 } :: { hash := PyData.keyHash P (Str.ofString "VERSION"), key := Value.str (Str.ofString "VERSION") 459, val := Value.int 2 458 } :: { hash := PyData.keyHash P (Str.ofString "PACKET_HEAD"), key := Value.str (Str.ofString "PACKET_HEAD") 461, val := Value.int 24 460 } :: { hash := PyData.keyHash P (Str.ofString "SUM_AT"), key := Value.str (Str.ofString "SUM_AT") 463, val := Value.int 12 462 } :: { hash := PyData.keyHash P (Str.ofString "AUTH_AT"), key := Value.str (Str.ofString "AUTH_AT") 465, val := Value.int 16 464 } :: { hash := PyData.keyHash P (Str.ofString "AUTH_SIZE"), key := Value.str (Str.ofString "AUTH_SIZE") 467, val := Value.int 8 466 } :: { hash := PyData.keyHash P (Str.ofString "AUTH_NONE"), key := Value.str (Str.ofString "AUTH_NONE") 469, val := Value.int 0 468 } :: { hash := PyData.keyHash P (Str.ofString "AUTH_PLAIN"), key := Value.str (Str.ofString "AUTH_PLAIN") 471, val := Value.int 1 470 } :: { hash := PyData.keyHash P (Str.ofString "WORDS"), key := Value.str (Str.ofString "WORDS") 477, val := Value.ref 190 } :: { hash := PyData.keyHash P (Str.ofString "put_heads"), key := Value.str (Str.ofString "put_heads") 483, val := Value.ref 195 } :: { hash := PyData.keyHash P (Str.ofString "put_hello"), key := Value.str (Str.ofString "put_hello") 489, val := Value.ref 200 } :: { hash := PyData.keyHash P (Str.ofString "put_payload"), key := Value.str (Str.ofString "put_payload") 495, val := Value.ref 205 } :: { hash := PyData.keyHash P (Str.ofString "auth_octets"), key := Value.str (Str.ofString "auth_octets") 503, val := Value.ref 212 } :: { hash := PyData.keyHash P (Str.ofString "packet_sum"), key := Value.str (Str.ofString "packet_sum") 510, val := Value.ref 219 } :: { hash := PyData.keyHash P (Str.ofString "put_packet"), key := Value.str (Str.ofString "put_packet") 526, val := Value.ref 226 } :: { hash := PyData.keyHash P (Str.ofString "packet_of"), key := Value.str (Str.ofString "packet_of") 535, val := Value.ref 233 } :: { hash := PyData.keyHash P (Str.ofString "_law_draw"), key := Value.str (Str.ofString "_law_draw") 546, val := Value.ref 240 } :: { hash := PyData.keyHash P (Str.ofString "law"), key := Value.str (Str.ofString "law") 552, val := Value.ref 245 } :: [])) 59 }) ::
    (nat_lit 20, { cls := Value.type "code", data := Data.fields #[Value.str (Str.ofString "hello_of") 191, Value.str (Str.ofString "hello_of") 192, Value.str (Str.ofString "/claim/cut.py") 193, Value.int 3 0, Value.int 2 0, Value.int 0 0, Value.int 0 0, Value.int 3 0, Value.ref 15, Value.bool true, Value.int 181 0, Value.ref 16, Value.none, Value.ref 17, Value.ref 18, Value.ref 19, Value.int 197 0, Value.int 3 0, Value.str (Str.ofString "/claim/cut.py") 198] }) ::
    (nat_lit 21, { cls := Value.type "function", data := Data.func { name := Str.ofString "hello_of", qualname := Str.ofString "hello_of", params := p21, body := b21, scope := s21, globals := 3, closure := [], defaults := Value.none, kwdefaults := Value.none, pyModule := Value.str (Str.ofString "routeloom.hellos") 187, code := Value.ref 20 } }) ::
    (nat_lit 22, { cls := Value.type "tuple", data := Data.seq #[Value.str (Str.ofString "down") 202, Value.str (Str.ofString "attempt") 203, Value.str (Str.ofString "init") 204, Value.str (Str.ofString "two_way") 205, Value.str (Str.ofString "exstart") 206, Value.str (Str.ofString "exchange") 207, Value.str (Str.ofString "loading") 208, Value.str (Str.ofString "full") 209] }) ::
    (nat_lit 28, { cls := Value.type "code", data := Data.fields #[Value.str (Str.ofString "is_at_least") 211, Value.str (Str.ofString "is_at_least") 212, Value.str (Str.ofString "/claim/cut.py") 213, Value.int 8 0, Value.int 2 0, Value.int 0 0, Value.int 0 0, Value.int 3 0, Value.ref 23, Value.bool true, Value.int 181 0, Value.ref 24, Value.none, Value.ref 25, Value.ref 26, Value.ref 27, Value.int 216 0, Value.int 8 0, Value.str (Str.ofString "/claim/cut.py") 217] }) ::
    (nat_lit 29, { cls := Value.type "function", data := Data.func { name := Str.ofString "is_at_least", qualname := Str.ofString "is_at_least", params := p29, body := b29, scope := s29, globals := 3, closure := [], defaults := Value.none, kwdefaults := Value.none, pyModule := Value.str (Str.ofString "routeloom.nstate") 200, code := Value.ref 28 } }) ::
    (nat_lit 35, { cls := Value.type "code", data := Data.fields #[Value.str (Str.ofString "is_told") 219, Value.str (Str.ofString "is_told") 220, Value.str (Str.ofString "/claim/cut.py") 221, Value.int 10 0, Value.int 1 0, Value.int 0 0, Value.int 0 0, Value.int 3 0, Value.ref 30, Value.bool true, Value.int 181 0, Value.ref 31, Value.none, Value.ref 32, Value.ref 33, Value.ref 34, Value.int 223 0, Value.int 10 0, Value.str (Str.ofString "/claim/cut.py") 224] }) ::
    (nat_lit 36, { cls := Value.type "function", data := Data.func { name := Str.ofString "is_told", qualname := Str.ofString "is_told", params := p36, body := b36, scope := s36, globals := 3, closure := [], defaults := Value.none, kwdefaults := Value.none, pyModule := Value.str (Str.ofString "routeloom.nstate") 200, code := Value.ref 35 } }) ::
    (nat_lit 42, { cls := Value.type "code", data := Data.fields #[Value.str (Str.ofString "new_iface") 232, Value.str (Str.ofString "new_iface") 233, Value.str (Str.ofString "/claim/cut.py") 234, Value.int 15 0, Value.int 2 0, Value.int 0 0, Value.int 0 0, Value.int 3 0, Value.ref 37, Value.bool true, Value.int 181 0, Value.ref 38, Value.none, Value.ref 39, Value.ref 40, Value.ref 41, Value.int 238 0, Value.int 15 0, Value.str (Str.ofString "/claim/cut.py") 239] }) ::
    (nat_lit 43, { cls := Value.type "function", data := Data.func { name := Str.ofString "new_iface", qualname := Str.ofString "new_iface", params := p43, body := b43, scope := s43, globals := 3, closure := [], defaults := Value.none, kwdefaults := Value.none, pyModule := Value.str (Str.ofString "routeloom.ospfiface") 226, code := Value.ref 42 } }) ::
    (nat_lit 49, { cls := Value.type "code", data := Data.fields #[Value.str (Str.ofString "hello_view") 241, Value.str (Str.ofString "hello_view") 242, Value.str (Str.ofString "/claim/cut.py") 243, Value.int 21 0, Value.int 1 0, Value.int 0 0, Value.int 0 0, Value.int 3 0, Value.ref 44, Value.bool true, Value.int 181 0, Value.ref 45, Value.none, Value.ref 46, Value.ref 47, Value.ref 48, Value.int 246 0, Value.int 21 0, Value.str (Str.ofString "/claim/cut.py") 247] }) ::
    (nat_lit 50, { cls := Value.type "function", data := Data.func { name := Str.ofString "hello_view", qualname := Str.ofString "hello_view", params := p50, body := b50, scope := s50, globals := 3, closure := [], defaults := Value.none, kwdefaults := Value.none, pyModule := Value.str (Str.ofString "routeloom.ospfiface") 226, code := Value.ref 49 } }) ::
    (nat_lit 51, { cls := Value.type "tuple", data := Data.seq #[Value.int 16367 230] }) ::
    (nat_lit 55, { cls := Value.type "code", data := Data.fields #[Value.str (Str.ofString "own_hello") 249, Value.str (Str.ofString "own_hello") 250, Value.str (Str.ofString "/claim/cut.py") 251, Value.int 26 0, Value.int 2 0, Value.int 0 0, Value.int 0 0, Value.int 3 0, Value.ref 52, Value.bool true, Value.int 181 0, Value.ref 53, Value.none, Value.none, Value.none, Value.ref 54, Value.int 252 0, Value.int 26 0, Value.str (Str.ofString "/claim/cut.py") 253] }) ::
    (nat_lit 56, { cls := Value.type "function", data := Data.func { name := Str.ofString "own_hello", qualname := Str.ofString "own_hello", params := p56, body := b56, scope := s56, globals := 3, closure := [], defaults := Value.ref 51, kwdefaults := Value.none, pyModule := Value.str (Str.ofString "routeloom.ospfiface") 226, code := Value.ref 55 } }) ::
    (nat_lit 76, { cls := Value.type "code", data := Data.fields #[Value.str (Str.ofString "internet_sum") 281, Value.str (Str.ofString "internet_sum") 282, Value.str (Str.ofString "/claim/cut.py") 283, Value.int 48 0, Value.int 1 0, Value.int 0 0, Value.int 0 0, Value.int 3 0, Value.ref 71, Value.bool true, Value.int 181 0, Value.ref 72, Value.none, Value.ref 73, Value.ref 74, Value.ref 75, Value.int 288 0, Value.int 48 0, Value.str (Str.ofString "/claim/cut.py") 289] }) ::
    (nat_lit 77, { cls := Value.type "function", data := Data.func { name := Str.ofString "internet_sum", qualname := Str.ofString "internet_sum", params := p77, body := b77, scope := s77, globals := 3, closure := [], defaults := Value.none, kwdefaults := Value.none, pyModule := Value.str (Str.ofString "routeloom.fletcher") 255, code := Value.ref 76 } }) ::
    (nat_lit 113, { cls := Value.type "code", data := Data.fields #[Value.str (Str.ofString "put_number") 340, Value.str (Str.ofString "put_number") 341, Value.str (Str.ofString "/claim/cut.py") 342, Value.int 63 0, Value.int 2 0, Value.int 0 0, Value.int 0 0, Value.int 3 0, Value.ref 110, Value.bool true, Value.int 181 0, Value.ref 111, Value.none, Value.none, Value.none, Value.ref 112, Value.int 343 0, Value.int 63 0, Value.str (Str.ofString "/claim/cut.py") 344] }) ::
    (nat_lit 114, { cls := Value.type "function", data := Data.func { name := Str.ofString "put_number", qualname := Str.ofString "put_number", params := p114, body := b114, scope := s114, globals := 3, closure := [], defaults := Value.none, kwdefaults := Value.none, pyModule := Value.str (Str.ofString "routeloom.octets") 338, code := Value.ref 113 } }) ::
    (nat_lit 120, { cls := Value.type "code", data := Data.fields #[Value.str (Str.ofString "put_u8") 346, Value.str (Str.ofString "put_u8") 347, Value.str (Str.ofString "/claim/cut.py") 348, Value.int 67 0, Value.int 1 0, Value.int 0 0, Value.int 0 0, Value.int 3 0, Value.ref 115, Value.bool true, Value.int 181 0, Value.ref 116, Value.none, Value.ref 117, Value.ref 118, Value.ref 119, Value.int 350 0, Value.int 67 0, Value.str (Str.ofString "/claim/cut.py") 351] }) ::
    (nat_lit 121, { cls := Value.type "function", data := Data.func { name := Str.ofString "put_u8", qualname := Str.ofString "put_u8", params := p121, body := b121, scope := s121, globals := 3, closure := [], defaults := Value.none, kwdefaults := Value.none, pyModule := Value.str (Str.ofString "routeloom.octets") 338, code := Value.ref 120 } }) ::
    (nat_lit 127, { cls := Value.type "code", data := Data.fields #[Value.str (Str.ofString "put_u16") 353, Value.str (Str.ofString "put_u16") 354, Value.str (Str.ofString "/claim/cut.py") 355, Value.int 69 0, Value.int 1 0, Value.int 0 0, Value.int 0 0, Value.int 3 0, Value.ref 122, Value.bool true, Value.int 181 0, Value.ref 123, Value.none, Value.ref 124, Value.ref 125, Value.ref 126, Value.int 357 0, Value.int 69 0, Value.str (Str.ofString "/claim/cut.py") 358] }) ::
    (nat_lit 128, { cls := Value.type "function", data := Data.func { name := Str.ofString "put_u16", qualname := Str.ofString "put_u16", params := p128, body := b128, scope := s128, globals := 3, closure := [], defaults := Value.none, kwdefaults := Value.none, pyModule := Value.str (Str.ofString "routeloom.octets") 338, code := Value.ref 127 } }) ::
    (nat_lit 141, { cls := Value.type "code", data := Data.fields #[Value.str (Str.ofString "put_u32") 367, Value.str (Str.ofString "put_u32") 368, Value.str (Str.ofString "/claim/cut.py") 369, Value.int 73 0, Value.int 1 0, Value.int 0 0, Value.int 0 0, Value.int 3 0, Value.ref 136, Value.bool true, Value.int 181 0, Value.ref 137, Value.none, Value.ref 138, Value.ref 139, Value.ref 140, Value.int 371 0, Value.int 73 0, Value.str (Str.ofString "/claim/cut.py") 372] }) ::
    (nat_lit 142, { cls := Value.type "function", data := Data.func { name := Str.ofString "put_u32", qualname := Str.ofString "put_u32", params := p142, body := b142, scope := s142, globals := 3, closure := [], defaults := Value.none, kwdefaults := Value.none, pyModule := Value.str (Str.ofString "routeloom.octets") 338, code := Value.ref 141 } }) ::
    (nat_lit 148, { cls := Value.type "code", data := Data.fields #[Value.str (Str.ofString "mask_of") 376, Value.str (Str.ofString "mask_of") 377, Value.str (Str.ofString "/claim/cut.py") 378, Value.int 76 0, Value.int 2 0, Value.int 0 0, Value.int 0 0, Value.int 3 0, Value.ref 143, Value.bool true, Value.int 181 0, Value.ref 144, Value.none, Value.ref 145, Value.ref 146, Value.ref 147, Value.int 381 0, Value.int 76 0, Value.str (Str.ofString "/claim/cut.py") 382] }) ::
    (nat_lit 149, { cls := Value.type "function", data := Data.func { name := Str.ofString "mask_of", qualname := Str.ofString "mask_of", params := p149, body := b149, scope := s149, globals := 3, closure := [], defaults := Value.none, kwdefaults := Value.none, pyModule := Value.str (Str.ofString "routeloom.prefixes") 374, code := Value.ref 148 } }) ::
    (nat_lit 190, { cls := Value.type "tuple", data := Data.seq #[Value.str (Str.ofString "hello") 472, Value.str (Str.ofString "dd") 473, Value.str (Str.ofString "request") 474, Value.str (Str.ofString "update") 475, Value.str (Str.ofString "ack") 476] }) ::
    (nat_lit 199, { cls := Value.type "code", data := Data.fields #[Value.str (Str.ofString "put_hello") 484, Value.str (Str.ofString "put_hello") 485, Value.str (Str.ofString "/claim/cut.py") 486, Value.int 124 0, Value.int 1 0, Value.int 0 0, Value.int 0 0, Value.int 3 0, Value.ref 196, Value.bool true, Value.int 181 0, Value.ref 197, Value.none, Value.none, Value.none, Value.ref 198, Value.int 487 0, Value.int 124 0, Value.str (Str.ofString "/claim/cut.py") 488] }) ::
    (nat_lit 200, { cls := Value.type "function", data := Data.func { name := Str.ofString "put_hello", qualname := Str.ofString "put_hello", params := p200, body := b200, scope := s200, globals := 3, closure := [], defaults := Value.none, kwdefaults := Value.none, pyModule := Value.str (Str.ofString "routeloom.ospfform") 456, code := Value.ref 199 } }) ::
    (nat_lit 204, { cls := Value.type "code", data := Data.fields #[Value.str (Str.ofString "put_payload") 490, Value.str (Str.ofString "put_payload") 491, Value.str (Str.ofString "/claim/cut.py") 492, Value.int 128 0, Value.int 1 0, Value.int 0 0, Value.int 0 0, Value.int 3 0, Value.ref 201, Value.bool true, Value.int 181 0, Value.ref 202, Value.none, Value.none, Value.none, Value.ref 203, Value.int 493 0, Value.int 128 0, Value.str (Str.ofString "/claim/cut.py") 494] }) ::
    (nat_lit 205, { cls := Value.type "function", data := Data.func { name := Str.ofString "put_payload", qualname := Str.ofString "put_payload", params := p205, body := b205, scope := s205, globals := 3, closure := [], defaults := Value.none, kwdefaults := Value.none, pyModule := Value.str (Str.ofString "routeloom.ospfform") 456, code := Value.ref 204 } }) ::
    (nat_lit 211, { cls := Value.type "code", data := Data.fields #[Value.str (Str.ofString "auth_octets") 496, Value.str (Str.ofString "auth_octets") 497, Value.str (Str.ofString "/claim/cut.py") 498, Value.int 140 0, Value.int 1 0, Value.int 0 0, Value.int 0 0, Value.int 3 0, Value.ref 206, Value.bool true, Value.int 181 0, Value.ref 207, Value.none, Value.ref 208, Value.ref 209, Value.ref 210, Value.int 501 0, Value.int 140 0, Value.str (Str.ofString "/claim/cut.py") 502] }) ::
    (nat_lit 212, { cls := Value.type "function", data := Data.func { name := Str.ofString "auth_octets", qualname := Str.ofString "auth_octets", params := p212, body := b212, scope := s212, globals := 3, closure := [], defaults := Value.none, kwdefaults := Value.none, pyModule := Value.str (Str.ofString "routeloom.ospfform") 456, code := Value.ref 211 } }) ::
    (nat_lit 218, { cls := Value.type "code", data := Data.fields #[Value.str (Str.ofString "packet_sum") 504, Value.str (Str.ofString "packet_sum") 505, Value.str (Str.ofString "/claim/cut.py") 506, Value.int 143 0, Value.int 1 0, Value.int 0 0, Value.int 0 0, Value.int 3 0, Value.ref 213, Value.bool true, Value.int 181 0, Value.ref 214, Value.none, Value.ref 215, Value.ref 216, Value.ref 217, Value.int 508 0, Value.int 143 0, Value.str (Str.ofString "/claim/cut.py") 509] }) ::
    (nat_lit 219, { cls := Value.type "function", data := Data.func { name := Str.ofString "packet_sum", qualname := Str.ofString "packet_sum", params := p219, body := b219, scope := s219, globals := 3, closure := [], defaults := Value.none, kwdefaults := Value.none, pyModule := Value.str (Str.ofString "routeloom.ospfform") 456, code := Value.ref 218 } }) ::
    (nat_lit 225, { cls := Value.type "code", data := Data.fields #[Value.str (Str.ofString "put_packet") 511, Value.str (Str.ofString "put_packet") 512, Value.str (Str.ofString "/claim/cut.py") 513, Value.int 145 0, Value.int 2 0, Value.int 0 0, Value.int 0 0, Value.int 3 0, Value.ref 220, Value.bool true, Value.int 181 0, Value.ref 221, Value.none, Value.ref 222, Value.ref 223, Value.ref 224, Value.int 524 0, Value.int 145 0, Value.str (Str.ofString "/claim/cut.py") 525] }) ::
    (nat_lit 226, { cls := Value.type "function", data := Data.func { name := Str.ofString "put_packet", qualname := Str.ofString "put_packet", params := p226, body := b226, scope := s226, globals := 3, closure := [], defaults := Value.none, kwdefaults := Value.none, pyModule := Value.str (Str.ofString "routeloom.ospfform") 456, code := Value.ref 225 } }) ::
    (nat_lit 232, { cls := Value.type "code", data := Data.fields #[Value.str (Str.ofString "packet_of") 527, Value.str (Str.ofString "packet_of") 528, Value.str (Str.ofString "/claim/cut.py") 529, Value.int 152 0, Value.int 3 0, Value.int 0 0, Value.int 0 0, Value.int 3 0, Value.ref 227, Value.bool true, Value.int 181 0, Value.ref 228, Value.none, Value.ref 229, Value.ref 230, Value.ref 231, Value.int 533 0, Value.int 152 0, Value.str (Str.ofString "/claim/cut.py") 534] }) ::
    (nat_lit 233, { cls := Value.type "function", data := Data.func { name := Str.ofString "packet_of", qualname := Str.ofString "packet_of", params := p233, body := b233, scope := s233, globals := 3, closure := [], defaults := Value.none, kwdefaults := Value.none, pyModule := Value.str (Str.ofString "routeloom.ospfform") 456, code := Value.ref 232 } }) ::
    (nat_lit 239, { cls := Value.type "code", data := Data.fields #[Value.str (Str.ofString "_law_draw") 538, Value.str (Str.ofString "_law_draw") 539, Value.str (Str.ofString "/claim/cut.py") 540, Value.int 155 0, Value.int 2 0, Value.int 0 0, Value.int 0 0, Value.int 3 0, Value.ref 234, Value.bool true, Value.int 181 0, Value.ref 235, Value.none, Value.ref 236, Value.ref 237, Value.ref 238, Value.int 544 0, Value.int 155 0, Value.str (Str.ofString "/claim/cut.py") 545] }) ::
    (nat_lit 240, { cls := Value.type "function", data := Data.func { name := Str.ofString "_law_draw", qualname := Str.ofString "_law_draw", params := p240, body := b240, scope := s240, globals := 3, closure := [], defaults := Value.none, kwdefaults := Value.none, pyModule := Value.str (Str.ofString "law_rh0209_01") 536, code := Value.ref 239 } }) ::
    (nat_lit 244, { cls := Value.type "code", data := Data.fields #[Value.str (Str.ofString "law") 547, Value.str (Str.ofString "law") 548, Value.str (Str.ofString "/claim/cut.py") 549, Value.int 161 0, Value.int 1 0, Value.int 0 0, Value.int 0 0, Value.int 3 0, Value.ref 241, Value.bool true, Value.int 181 0, Value.ref 242, Value.none, Value.none, Value.none, Value.ref 243, Value.int 550 0, Value.int 161 0, Value.str (Str.ofString "/claim/cut.py") 551] }) ::
    (nat_lit 245, { cls := Value.type "function", data := Data.func { name := Str.ofString "law", qualname := Str.ofString "law", params := p245, body := b245, scope := s245, globals := 3, closure := [], defaults := Value.none, kwdefaults := Value.none, pyModule := Value.str (Str.ofString "law_rh0209_01") 536, code := Value.ref 244 } }) :: [] : List (Nat × Obj)))
    ?p21 ?b21 ?s21 ?p29 ?b29 ?s29 ?p36 ?b36 ?s36 ?p43 ?b43 ?s43 ?p50 ?b50 ?s50 ?p56 ?b56 ?s56 ?p77 ?b77 ?s77 ?p114 ?b114 ?s114 ?p121 ?b121 ?s121 ?p128 ?b128 ?s128 ?p142 ?b142 ?s142 ?p149 ?b149 ?s149 ?p200 ?b200 ?s200 ?p205 ?b205 ?s205 ?p212 ?b212 ?s212 ?p219 ?b219 ?s219 ?p226 ?b226 ?s226 ?p233 ?b233 ?s233 ?p240 ?b240 ?s240 ?p245 ?b245 ?s245 ?hp21 ?hb21 ?hs21 ?hp29 ?hb29 ?hs29 ?hp36 ?hb36 ?hs36 ?hp43 ?hb43 ?hs43 ?hp50 ?hb50 ?hs50 ?hp56 ?hb56 ?hs56 ?hp77 ?hb77 ?hs77 ?hp114 ?hb114 ?hs114 ?hp121 ?hb121 ?hs121 ?hp128 ?hb128 ?hs128 ?hp142 ?hb142 ?hs142 ?hp149 ?hb149 ?hs149 ?hp200 ?hb200 ?hs200 ?hp205 ?hb205 ?hs205 ?hp212 ?hb212 ?hs212 ?hp219 ?hb219 ?hs219 ?hp226 ?hb226 ?hs226 ?hp233 ?hb233 ?hs233 ?hp240 ?hb240 ?hs240 ?hp245 ?hb245 ?hs245
  case hp21 => conv => rhs; whnf
  case hb21 => conv => rhs; whnf
  case hs21 => conv => rhs; whnf
  case hp29 => conv => rhs; whnf
  case hb29 => conv => rhs; whnf
  case hs29 => conv => rhs; whnf
  case hp36 => conv => rhs; whnf
  case hb36 => conv => rhs; whnf
  case hs36 => conv => rhs; whnf
  case hp43 => conv => rhs; whnf
  case hb43 => conv => rhs; whnf
  case hs43 => conv => rhs; whnf
  case hp50 => conv => rhs; whnf
  case hb50 => conv => rhs; whnf
  case hs50 => conv => rhs; whnf
  case hp56 => conv => rhs; whnf
  case hb56 => conv => rhs; whnf
  case hs56 => conv => rhs; whnf
  case hp77 => conv => rhs; whnf
  case hb77 => conv => rhs; whnf
  case hs77 => conv => rhs; whnf
  case hp114 => conv => rhs; whnf
  case hb114 => conv => rhs; whnf
  case hs114 => conv => rhs; whnf
  case hp121 => conv => rhs; whnf
  case hb121 => conv => rhs; whnf
  case hs121 => conv => rhs; whnf
  case hp128 => conv => rhs; whnf
  case hb128 => conv => rhs; whnf
  case hs128 => conv => rhs; whnf
  case hp142 => conv => rhs; whnf
  case hb142 => conv => rhs; whnf
  case hs142 => conv => rhs; whnf
  case hp149 => conv => rhs; whnf
  case hb149 => conv => rhs; whnf
  case hs149 => conv => rhs; whnf
  case hp200 => conv => rhs; whnf
  case hb200 => conv => rhs; whnf
  case hs200 => conv => rhs; whnf
  case hp205 => conv => rhs; whnf
  case hb205 => conv => rhs; whnf
  case hs205 => conv => rhs; whnf
  case hp212 => conv => rhs; whnf
  case hb212 => conv => rhs; whnf
  case hs212 => conv => rhs; whnf
  case hp219 => conv => rhs; whnf
  case hb219 => conv => rhs; whnf
  case hs219 => conv => rhs; whnf
  case hp226 => conv => rhs; whnf
  case hb226 => conv => rhs; whnf
  case hs226 => conv => rhs; whnf
  case hp233 => conv => rhs; whnf
  case hb233 => conv => rhs; whnf
  case hs233 => conv => rhs; whnf
  case hp240 => conv => rhs; whnf
  case hb240 => conv => rhs; whnf
  case hs240 => conv => rhs; whnf
  case hp245 => conv => rhs; whnf
  case hb245 => conv => rhs; whnf
  case hs245 => conv => rhs; whnf
def hd.addrs : List Addr := [2, 3, 20, 21, 22, 28, 29, 35, 36, 42, 43, 49, 50, 51, 55, 56, 76, 77, 113, 114, 120, 121, 127, 128, 141, 142, 148, 149, 190, 199, 200, 204, 205, 211, 212, 218, 219, 225, 226, 232, 233, 239, 240, 244, 245]
noncomputable abbrev hd.hook : Hook := kHook hd.heap_39 hd.addrs (fun _ => by kernel_rfl)
/-- the top's run over a tree of objects -/
def topRunT (tb : String → Option Builtin) (p : Program) (w : World) (n₀ : Nat) (ann : Option Value) : Nat → SharedT → Thread → Option SharedT
  | 0, _, _ => none
  | n + 1, s, t => match through t with
    | true => some s
    | false => match stepOk n₀ ann t with
      | false => none
      | true => match stepT (denote tb) p w s t with
        | some r => topRunT tb p w n₀ ann n r.1 r.2
        | none => none
theorem topRunT_of {tb : String → Option Builtin} {p : Program} {w : World} {n₀ : Nat} {ann : Option Value} : ∀ {n : Nat} {s s' : SharedT} {t : Thread}, topRunT tb p w n₀ ann n s t = some s' → topRun tb p w n₀ ann n s.abs t = some s'.abs
  | 0, _, _, _, h => by cases h
  | n + 1, s, s', t, h => by
    unfold topRunT at h
    unfold topRun
    cases he : through t with
    | true => rw [he] at h; cases h; rfl
    | false =>
      rw [he] at h
      cases hk : stepOk n₀ ann t with
      | false => rw [hk] at h; cases h
      | true =>
        rw [hk] at h
        cases hs : stepT (denote tb) p w s t with
        | none => rw [hs] at h; cases h
        | some r => rw [hs] at h; rw [stepT_spec (s' := r.1) (t' := r.2) hs]; exact topRunT_of h
/-- n steps of the top's run over a tree -/
def topGoT (tb : String → Option Builtin) (p : Program) (w : World) (n₀ : Nat) (ann : Option Value) : Nat → SharedT → Thread → Option (SharedT × Thread)
  | 0, s, t => some (s, t)
  | n + 1, s, t => match through t with
    | true => none
    | false => match stepOk n₀ ann t with
      | false => none
      | true => match stepT (denote tb) p w s t with
        | some r => topGoT tb p w n₀ ann n r.1 r.2
        | none => none
theorem topGoT_of {tb : String → Option Builtin} {p : Program} {w : World} {n₀ : Nat} {ann : Option Value} : ∀ {n : Nat} {s s' : SharedT} {t t' : Thread}, topGoT tb p w n₀ ann n s t = some (s', t') → topGo tb p w n₀ ann n s.abs t = some (s'.abs, t')
  | 0, _, _, _, _, h => by cases h; rfl
  | n + 1, s, s', t, t', h => by
    unfold topGoT at h
    unfold topGo
    cases he : through t with
    | true => rw [he] at h; cases h
    | false =>
      rw [he] at h
      cases hk : stepOk n₀ ann t with
      | false => rw [hk] at h; cases h
      | true =>
        rw [hk] at h
        cases hs : stepT (denote tb) p w s t with
        | none => rw [hs] at h; cases h
        | some r => rw [hs] at h; rw [stepT_spec (s' := r.1) (t' := r.2) hs]; exact topGoT_of h
def treeOf (l : List Obj) : BT := (l.foldl (fun (t : BT × Nat) o => (t.1.ins t.2 o, t.2 + 1)) (.nil, 0)).1
/-- a state: its objects as a list -/
def stateOf (l : List Obj) (n toks : Nat) (os : OsState) : SharedT := ⟨treeOf l, n, {}, Array.mk [], {}, toks, os⟩
/-- a stretch of statements ahead of the rest -/
theorem cut_step {tb : String → Option Builtin} {p : Program} {w : World} {n₀ : Nat} {ann : Option Value} {env : Env} {q : Pos} {n N k j k' : Nat} {s s' : SharedT} {r : Shared} {b : List Stmt} {c : Code} {pos p' : Pos}
    (h : segRunT tb p w n₀ ann 1 n s (piecesOf ((b.drop k).take j) env c pos [topFrame q]) = some (.next, s', c, p'))
    (hk : k' = k + j)
    (r' : topRun tb p w n₀ ann N s'.abs (restOf (b.drop k') env c p' [topFrame q]) = some r) : topRun tb p w n₀ ann (n + N) s.abs (restOf (b.drop k) env c pos [topFrame q]) = some r := by
  subst hk
  have x := piece_app (segRun_of h) r'
  rwa [← List.drop_drop, List.take_append_drop] at x
/-- the top's run in parts: over states that are written down -/
theorem left_of_cut {p q : Program} {loose : List Str} {Xt : Shared → Bool} {α : Type} {Yf : Shared → α} {Ya : World → α} {N : Nat} {g0 : Bool} {B A M : Params → OsState → SharedT} {n0 n1 n2 n3 k m0 : Nat} {ann : Option Value} {env : Env} {c : Code} {pos0 pos1 pos2 qp : Pos}
    (open_ : ∀ w : World, (fencedOpening treeTable p w N).map (fun s => (s.heap, s.gens, s.drawn, s.toks)) = some (boot_heap w.params, Array.mk [], boot_drawn, boot_toks))
    (boot : ∀ P os, (B P os).abs = ⟨boot_heap P, Array.mk [], boot_drawn, boot_toks, os⟩)
    (size : ∀ w : World, ((boot_heap w.params).isNs mainGlobals && (Array.mk [] : Array GenState).size == 0, (boot_heap w.params).objs.size, (boot_heap w.params).nsMap mainGlobals "__annotations__") = (true, m0, ann))
    (h0 : ∀ (w : World) (os : OsState), topGoT treeTable p w m0 ann n0 (B w.params os) (topStub p) = some (A w.params os, ⟨denote treeTable (.body (behindTheImports p) env), c, pos0, [topFrame qp]⟩))
    (h1 : ∀ (w : World) (os : OsState), segRunT treeTable p w m0 ann 1 n1 (A w.params os) (blockOf (behindTheImports p) env c pos0 [topFrame qp]) = some (.next, A w.params os, c, pos1))
    (h2 : ∀ (w : World) (os : OsState) (r : Shared) (n : Nat), topRun treeTable p w m0 ann n (M w.params os).abs (restOf ((behindTheImports p).drop k) env c pos2 [topFrame qp]) = some r →
      topRun treeTable p w m0 ann (n2 + n) (A w.params os).abs (restOf ((behindTheImports p).drop 0) env c pos1 [topFrame qp]) = some r)
    (h3 : ∀ (w : World) (os : OsState), (topRunT treeTable p w m0 ann n3 (M w.params os) (restOf ((behindTheImports p).drop k) env c pos2 [topFrame qp])).map (fun s =>
        (staticsOk (importedModules p.main.body) (boot_heap w.params) s.abs.heap && namesBound p s.abs.heap && gensDone s.abs && laidKept (boot_heap w.params) s.abs.heap, openSeen q loose (importedModules p.main.body) Xt g0 s.abs, Yf s.abs)) = some (true, openGood q loose, Ya w))
    (le : Nat.ble (n0 + (n1 + (n2 + n3))) N = true) : LeftO p q loose Xt Yf Ya N g0 := fun w => by
  obtain ⟨⟨h, gs, d, kt, os⟩, e, e'⟩ := Option.map_eq_some_iff.mp (open_ w)
  obtain ⟨rfl, rfl, rfl, rfl⟩ : h = boot_heap w.params ∧ gs = Array.mk [] ∧ d = boot_drawn ∧ kt = boot_toks := by simpa using e'
  obtain ⟨z1, z2, z3⟩ : _ ∧ _ ∧ _ := by simpa only [Prod.mk.injEq] using size w
  obtain ⟨s3, r3, e3⟩ := Option.map_eq_some_iff.mp (h3 w os)
  obtain ⟨l1, l2, l3⟩ : _ ∧ _ ∧ _ := by simpa only [Prod.mk.injEq] using e3
  have r2 := h2 w os _ _ (topRunT_of r3)
  rw [List.drop_zero] at r2
  have r1 := piece_block (segRun_of (h1 w os)) r2
  have r := go_top (topGoT_of (h0 w os)) r1
  rw [boot w.params os] at r
  have r := topRun_mono (N - (n0 + (n1 + (n2 + n3)))) _ _ _ _ r
  rw [show n0 + (n1 + (n2 + n3)) + (N - (n0 + (n1 + (n2 + n3)))) = N by have := Nat.le_of_ble_eq_true le; omega] at r
  have t : topFrom treeTable p w N ⟨boot_heap w.params, Array.mk [], boot_drawn, boot_toks, os⟩ = some s3.abs := by
    unfold topFrom
    dsimp only
    rw [z1, z2, z3, r]
    show (match staticsOk (importedModules p.main.body) (boot_heap w.params) s3.abs.heap && namesBound p s3.abs.heap && gensDone s3.abs && laidKept (boot_heap w.params) s3.abs.heap with | true => _ | false => _) = _
    rw [l1]
  unfold openEnds
  rw [e]
  show (topFrom treeTable p w N _).map _ = _
  rw [t]
  exact congrArg some (Prod.ext l2 l3)
/-- the body of a class -/
def clsBody : Stmt → List Stmt
  | .ClassDef _ _ _ b _ _ _ _ _ _ _ => b
  | _ => []
/-- some objects of a state written anew -/
def renew (l : List Obj) (r : List (Nat × Obj)) : List Obj := r.foldl (fun l x => l.set x.1 x.2) l
noncomputable def cutA (P : Params) : List Obj := renew ([boot_o_0 P, boot_o_1 P, boot_o_2 P, boot_o_3 P, boot_o_4 P, boot_o_5 P, boot_o_6 P, boot_o_7 P, boot_o_8 P, boot_o_9 P, boot_o_10 P]) [] ++ (
  { cls := Value.type "tuple", data := Data.seq #[] } ::
  { cls := Value.none, data := Data.fields #[] } ::
  { cls := Value.type "code", data := Data.fields #[Value.str (Str.ofString "<module>") 182, Value.str (Str.ofString "<module>") 183, Value.str (Str.ofString "/claim/cut.py") 184, Value.int 1 0, Value.int 0 0, Value.int 0 0, Value.int 0 0, Value.int 0 0, Value.ref 11, Value.bool false, Value.int 181 0, Value.ref 12, Value.none, Value.none, Value.none, Value.none, Value.int 185 0, Value.int 1 0, Value.str (Str.ofString "/claim/cut.py") 186] } ::
  { cls := Value.type "frame", slots := #[some (Value.ref 13), some (Value.ref 3), some (Value.ref 3), none, some (Value.str (Str.ofString "__main__") 164), none, some (Value.ref 0)] } :: [])
noncomputable def cutC0 (P : Params) : List Obj := renew (cutA P) [(3, { cls := Value.type "dict", data := Data.dict (List.toArray ({ hash := PyData.keyHash P (Str.ofString "__name__"), key := Value.str (Str.ofString "__name__") 165, val := Value.str (Str.ofString "routeloom.errors") 291 } :: { hash := PyData.keyHash P (Str.ofString "__doc__"), key := Value.str (Str.ofString "__doc__") 166, val := Value.none } :: { hash := PyData.keyHash P (Str.ofString "__package__"), key := Value.str (Str.ofString "__package__") 167, val := Value.none } :: { hash := PyData.keyHash P (Str.ofString "__loader__"), key := Value.str (Str.ofString "__loader__") 168, val := Value.builtin "__main__.__loader__#opaque" } :: { hash := PyData.keyHash P (Str.ofString "__spec__"), key := Value.str (Str.ofString "__spec__") 169, val := Value.none } :: { hash := PyData.keyHash P (Str.ofString "__annotations__"), key := Value.str (Str.ofString "__annotations__") 170, val := Value.ref 6 } :: { hash := PyData.keyHash P (Str.ofString "__builtins__"), key := Value.str (Str.ofString "__builtins__") 171, val := Value.ref 4 } :: { hash := PyData.keyHash P (Str.ofString "__file__"), key := Value.str (Str.ofString "__file__") 173, val := Value.str (Str.ofString "/claim/cut.py") 172 } :: { hash := PyData.keyHash P (Str.ofString "__cached__"), key := Value.str (Str.ofString "__cached__") 174, val := Value.none } :: { hash := PyData.keyHash P (Str.ofString "E_BIT"), key := Value.str (Str.ofString "E_BIT") 190, val := Value.int 2 189 } :: { hash := PyData.keyHash P (Str.ofString "hello_of"), key := Value.str (Str.ofString "hello_of") 199, val := Value.ref 21 } :: { hash := PyData.keyHash P (Str.ofString "STATES"), key := Value.str (Str.ofString "STATES") 210, val := Value.ref 22 } :: { hash := PyData.keyHash P (Str.ofString "is_at_least"), key := Value.str (Str.ofString "is_at_least") 218, val := Value.ref 29 } :: { hash := PyData.keyHash P (Str.ofString "is_told"), key := Value.str (Str.ofString "is_told") 225, val := Value.ref 36 } :: { hash := PyData.keyHash P (Str.ofString "SEND_DELAY"), key := Value.str (Str.ofString "SEND_DELAY") 229, val := Value.int 1 228 } :: { hash := PyData.keyHash P (Str.ofString "MOST_NAMED"), key := Value.str (Str.ofString "MOST_NAMED") 231, val := Value.int 16367 230 } :: { hash := PyData.keyHash P (Str.ofString "new_iface"), key := Value.str (Str.ofString "new_iface") 240, val := Value.ref 43 } :: { hash := PyData.keyHash P (Str.ofString "hello_view"), key := Value.str (Str.ofString "hello_view") 248, val := Value.ref 50 } :: { hash := PyData.keyHash P (Str.ofString "own_hello"), key := Value.str (Str.ofString "own_hello") 254, val := Value.ref 56 } :: { hash := PyData.keyHash P (Str.ofString "MODULUS"), key := Value.str (Str.ofString "MODULUS") 258, val := Value.int 255 257 } :: { hash := PyData.keyHash P (Str.ofString "fletcher_pair"), key := Value.str (Str.ofString "fletcher_pair") 268, val := Value.ref 63 } :: { hash := PyData.keyHash P (Str.ofString "fletcher_sum"), key := Value.str (Str.ofString "fletcher_sum") 280, val := Value.ref 70 } :: { hash := PyData.keyHash P (Str.ofString "internet_sum"), key := Value.str (Str.ofString "internet_sum") 290, val := Value.ref 77 } :: [])) 23 }), (12, { cls := Value.none, data := Data.fields #[Value.int 3 0, Value.int 0 0, Value.ref 20, Value.int 8 0, Value.int 0 0, Value.ref 28, Value.int 10 0, Value.int 0 0, Value.ref 35, Value.int 15 0, Value.int 0 0, Value.ref 42, Value.int 21 0, Value.int 0 0, Value.ref 49, Value.int 26 0, Value.int 0 0, Value.ref 55, Value.int 33 0, Value.int 0 0, Value.ref 62, Value.int 39 0, Value.int 0 0, Value.ref 69, Value.int 48 0, Value.int 0 0, Value.ref 76] })] ++ (
  { cls := Value.type "tuple", data := Data.seq #[] } ::
  { cls := Value.none, data := Data.fields #[] } ::
  { cls := Value.type "tuple", data := Data.seq #[Value.str (Str.ofString "own") 194, Value.str (Str.ofString "heard") 195, Value.str (Str.ofString "parts") 196] } ::
  { cls := Value.type "tuple", data := Data.seq #[] } ::
  { cls := Value.none, data := Data.func { name := Str.ofString "hello_of", qualname := Str.ofString "hello_of", params := fnParams (stmtAt rowBody 2), body := fnBody (stmtAt rowBody 2), scope := fnScope (stmtAt rowBody 2), globals := 0, closure := [], defaults := Value.none, kwdefaults := Value.none } } ::
  { cls := Value.type "code", data := Data.fields #[Value.str (Str.ofString "hello_of") 191, Value.str (Str.ofString "hello_of") 192, Value.str (Str.ofString "/claim/cut.py") 193, Value.int 3 0, Value.int 2 0, Value.int 0 0, Value.int 0 0, Value.int 3 0, Value.ref 15, Value.bool true, Value.int 181 0, Value.ref 16, Value.none, Value.ref 17, Value.ref 18, Value.ref 19, Value.int 197 0, Value.int 3 0, Value.str (Str.ofString "/claim/cut.py") 198] } ::
  { cls := Value.type "function", data := Data.func { name := Str.ofString "hello_of", qualname := Str.ofString "hello_of", params := fnParams (stmtAt rowBody 2), body := fnBody (stmtAt rowBody 2), scope := fnScope (stmtAt rowBody 2), globals := 3, closure := [], defaults := Value.none, kwdefaults := Value.none, pyModule := Value.str (Str.ofString "routeloom.hellos") 187, code := Value.ref 20 } } ::
  { cls := Value.type "tuple", data := Data.seq #[Value.str (Str.ofString "down") 202, Value.str (Str.ofString "attempt") 203, Value.str (Str.ofString "init") 204, Value.str (Str.ofString "two_way") 205, Value.str (Str.ofString "exstart") 206, Value.str (Str.ofString "exchange") 207, Value.str (Str.ofString "loading") 208, Value.str (Str.ofString "full") 209] } ::
  { cls := Value.type "tuple", data := Data.seq #[] } ::
  { cls := Value.none, data := Data.fields #[] } ::
  { cls := Value.type "tuple", data := Data.seq #[Value.str (Str.ofString "state") 214, Value.str (Str.ofString "floor") 215] } ::
  { cls := Value.type "tuple", data := Data.seq #[] } ::
  { cls := Value.none, data := Data.func { name := Str.ofString "is_at_least", qualname := Str.ofString "is_at_least", params := fnParams (stmtAt rowBody 5), body := fnBody (stmtAt rowBody 5), scope := fnScope (stmtAt rowBody 5), globals := 0, closure := [], defaults := Value.none, kwdefaults := Value.none } } ::
  { cls := Value.type "code", data := Data.fields #[Value.str (Str.ofString "is_at_least") 211, Value.str (Str.ofString "is_at_least") 212, Value.str (Str.ofString "/claim/cut.py") 213, Value.int 8 0, Value.int 2 0, Value.int 0 0, Value.int 0 0, Value.int 3 0, Value.ref 23, Value.bool true, Value.int 181 0, Value.ref 24, Value.none, Value.ref 25, Value.ref 26, Value.ref 27, Value.int 216 0, Value.int 8 0, Value.str (Str.ofString "/claim/cut.py") 217] } ::
  { cls := Value.type "function", data := Data.func { name := Str.ofString "is_at_least", qualname := Str.ofString "is_at_least", params := fnParams (stmtAt rowBody 5), body := fnBody (stmtAt rowBody 5), scope := fnScope (stmtAt rowBody 5), globals := 3, closure := [], defaults := Value.none, kwdefaults := Value.none, pyModule := Value.str (Str.ofString "routeloom.nstate") 200, code := Value.ref 28 } } ::
  { cls := Value.type "tuple", data := Data.seq #[] } ::
  { cls := Value.none, data := Data.fields #[] } ::
  { cls := Value.type "tuple", data := Data.seq #[Value.str (Str.ofString "state") 222] } ::
  { cls := Value.type "tuple", data := Data.seq #[] } ::
  { cls := Value.none, data := Data.func { name := Str.ofString "is_told", qualname := Str.ofString "is_told", params := fnParams (stmtAt rowBody 6), body := fnBody (stmtAt rowBody 6), scope := fnScope (stmtAt rowBody 6), globals := 0, closure := [], defaults := Value.none, kwdefaults := Value.none } } ::
  { cls := Value.type "code", data := Data.fields #[Value.str (Str.ofString "is_told") 219, Value.str (Str.ofString "is_told") 220, Value.str (Str.ofString "/claim/cut.py") 221, Value.int 10 0, Value.int 1 0, Value.int 0 0, Value.int 0 0, Value.int 3 0, Value.ref 30, Value.bool true, Value.int 181 0, Value.ref 31, Value.none, Value.ref 32, Value.ref 33, Value.ref 34, Value.int 223 0, Value.int 10 0, Value.str (Str.ofString "/claim/cut.py") 224] } ::
  { cls := Value.type "function", data := Data.func { name := Str.ofString "is_told", qualname := Str.ofString "is_told", params := fnParams (stmtAt rowBody 6), body := fnBody (stmtAt rowBody 6), scope := fnScope (stmtAt rowBody 6), globals := 3, closure := [], defaults := Value.none, kwdefaults := Value.none, pyModule := Value.str (Str.ofString "routeloom.nstate") 200, code := Value.ref 35 } } ::
  { cls := Value.type "tuple", data := Data.seq #[] } ::
  { cls := Value.none, data := Data.fields #[] } ::
  { cls := Value.type "tuple", data := Data.seq #[Value.str (Str.ofString "config") 235, Value.str (Str.ofString "router") 236, Value.str (Str.ofString "found") 237] } ::
  { cls := Value.type "tuple", data := Data.seq #[] } ::
  { cls := Value.none, data := Data.func { name := Str.ofString "new_iface", qualname := Str.ofString "new_iface", params := fnParams (stmtAt rowBody 10), body := fnBody (stmtAt rowBody 10), scope := fnScope (stmtAt rowBody 10), globals := 0, closure := [], defaults := Value.none, kwdefaults := Value.none } } ::
  { cls := Value.type "code", data := Data.fields #[Value.str (Str.ofString "new_iface") 232, Value.str (Str.ofString "new_iface") 233, Value.str (Str.ofString "/claim/cut.py") 234, Value.int 15 0, Value.int 2 0, Value.int 0 0, Value.int 0 0, Value.int 3 0, Value.ref 37, Value.bool true, Value.int 181 0, Value.ref 38, Value.none, Value.ref 39, Value.ref 40, Value.ref 41, Value.int 238 0, Value.int 15 0, Value.str (Str.ofString "/claim/cut.py") 239] } ::
  { cls := Value.type "function", data := Data.func { name := Str.ofString "new_iface", qualname := Str.ofString "new_iface", params := fnParams (stmtAt rowBody 10), body := fnBody (stmtAt rowBody 10), scope := fnScope (stmtAt rowBody 10), globals := 3, closure := [], defaults := Value.none, kwdefaults := Value.none, pyModule := Value.str (Str.ofString "routeloom.ospfiface") 226, code := Value.ref 42 } } ::
  { cls := Value.type "tuple", data := Data.seq #[] } ::
  { cls := Value.none, data := Data.fields #[] } ::
  { cls := Value.type "tuple", data := Data.seq #[Value.str (Str.ofString "iface") 244, Value.str (Str.ofString "found") 245] } ::
  { cls := Value.type "tuple", data := Data.seq #[] } ::
  { cls := Value.none, data := Data.func { name := Str.ofString "hello_view", qualname := Str.ofString "hello_view", params := fnParams (stmtAt rowBody 11), body := fnBody (stmtAt rowBody 11), scope := fnScope (stmtAt rowBody 11), globals := 0, closure := [], defaults := Value.none, kwdefaults := Value.none } } ::
  { cls := Value.type "code", data := Data.fields #[Value.str (Str.ofString "hello_view") 241, Value.str (Str.ofString "hello_view") 242, Value.str (Str.ofString "/claim/cut.py") 243, Value.int 21 0, Value.int 1 0, Value.int 0 0, Value.int 0 0, Value.int 3 0, Value.ref 44, Value.bool true, Value.int 181 0, Value.ref 45, Value.none, Value.ref 46, Value.ref 47, Value.ref 48, Value.int 246 0, Value.int 21 0, Value.str (Str.ofString "/claim/cut.py") 247] } ::
  { cls := Value.type "function", data := Data.func { name := Str.ofString "hello_view", qualname := Str.ofString "hello_view", params := fnParams (stmtAt rowBody 11), body := fnBody (stmtAt rowBody 11), scope := fnScope (stmtAt rowBody 11), globals := 3, closure := [], defaults := Value.none, kwdefaults := Value.none, pyModule := Value.str (Str.ofString "routeloom.ospfiface") 226, code := Value.ref 49 } } ::
  { cls := Value.type "tuple", data := Data.seq #[Value.int 16367 230] } ::
  { cls := Value.type "tuple", data := Data.seq #[] } ::
  { cls := Value.none, data := Data.fields #[] } ::
  { cls := Value.none, data := Data.func { name := Str.ofString "own_hello", qualname := Str.ofString "own_hello", params := fnParams (stmtAt rowBody 12), body := fnBody (stmtAt rowBody 12), scope := fnScope (stmtAt rowBody 12), globals := 0, closure := [], defaults := Value.none, kwdefaults := Value.none } } ::
  { cls := Value.type "code", data := Data.fields #[Value.str (Str.ofString "own_hello") 249, Value.str (Str.ofString "own_hello") 250, Value.str (Str.ofString "/claim/cut.py") 251, Value.int 26 0, Value.int 2 0, Value.int 0 0, Value.int 0 0, Value.int 3 0, Value.ref 52, Value.bool true, Value.int 181 0, Value.ref 53, Value.none, Value.none, Value.none, Value.ref 54, Value.int 252 0, Value.int 26 0, Value.str (Str.ofString "/claim/cut.py") 253] } ::
  { cls := Value.type "function", data := Data.func { name := Str.ofString "own_hello", qualname := Str.ofString "own_hello", params := fnParams (stmtAt rowBody 12), body := fnBody (stmtAt rowBody 12), scope := fnScope (stmtAt rowBody 12), globals := 3, closure := [], defaults := Value.ref 51, kwdefaults := Value.none, pyModule := Value.str (Str.ofString "routeloom.ospfiface") 226, code := Value.ref 55 } } ::
  { cls := Value.type "tuple", data := Data.seq #[] } ::
  { cls := Value.none, data := Data.fields #[] } ::
  { cls := Value.type "tuple", data := Data.seq #[Value.str (Str.ofString "octets") 262, Value.str (Str.ofString "low") 263, Value.str (Str.ofString "high") 264, Value.str (Str.ofString "octet") 265] } ::
  { cls := Value.type "tuple", data := Data.seq #[] } ::
  { cls := Value.none, data := Data.func { name := Str.ofString "fletcher_pair", qualname := Str.ofString "fletcher_pair", params := fnParams (stmtAt rowBody 15), body := fnBody (stmtAt rowBody 15), scope := fnScope (stmtAt rowBody 15), globals := 0, closure := [], defaults := Value.none, kwdefaults := Value.none } } ::
  { cls := Value.type "code", data := Data.fields #[Value.str (Str.ofString "fletcher_pair") 259, Value.str (Str.ofString "fletcher_pair") 260, Value.str (Str.ofString "/claim/cut.py") 261, Value.int 33 0, Value.int 1 0, Value.int 0 0, Value.int 0 0, Value.int 3 0, Value.ref 57, Value.bool true, Value.int 181 0, Value.ref 58, Value.none, Value.ref 59, Value.ref 60, Value.ref 61, Value.int 266 0, Value.int 33 0, Value.str (Str.ofString "/claim/cut.py") 267] } ::
  { cls := Value.type "function", data := Data.func { name := Str.ofString "fletcher_pair", qualname := Str.ofString "fletcher_pair", params := fnParams (stmtAt rowBody 15), body := fnBody (stmtAt rowBody 15), scope := fnScope (stmtAt rowBody 15), globals := 3, closure := [], defaults := Value.none, kwdefaults := Value.none, pyModule := Value.str (Str.ofString "routeloom.fletcher") 255, code := Value.ref 62 } } ::
  { cls := Value.type "tuple", data := Data.seq #[] } ::
  { cls := Value.none, data := Data.fields #[] } ::
  { cls := Value.type "tuple", data := Data.seq #[Value.str (Str.ofString "octets") 272, Value.str (Str.ofString "place") 273, Value.str (Str.ofString "low") 274, Value.str (Str.ofString "high") 275, Value.str (Str.ofString "first") 276, Value.str (Str.ofString "second") 277] } ::
  { cls := Value.type "tuple", data := Data.seq #[] } ::
  { cls := Value.none, data := Data.func { name := Str.ofString "fletcher_sum", qualname := Str.ofString "fletcher_sum", params := fnParams (stmtAt rowBody 16), body := fnBody (stmtAt rowBody 16), scope := fnScope (stmtAt rowBody 16), globals := 0, closure := [], defaults := Value.none, kwdefaults := Value.none } } ::
  { cls := Value.type "code", data := Data.fields #[Value.str (Str.ofString "fletcher_sum") 269, Value.str (Str.ofString "fletcher_sum") 270, Value.str (Str.ofString "/claim/cut.py") 271, Value.int 39 0, Value.int 2 0, Value.int 0 0, Value.int 0 0, Value.int 3 0, Value.ref 64, Value.bool true, Value.int 181 0, Value.ref 65, Value.none, Value.ref 66, Value.ref 67, Value.ref 68, Value.int 278 0, Value.int 39 0, Value.str (Str.ofString "/claim/cut.py") 279] } ::
  { cls := Value.type "function", data := Data.func { name := Str.ofString "fletcher_sum", qualname := Str.ofString "fletcher_sum", params := fnParams (stmtAt rowBody 16), body := fnBody (stmtAt rowBody 16), scope := fnScope (stmtAt rowBody 16), globals := 3, closure := [], defaults := Value.none, kwdefaults := Value.none, pyModule := Value.str (Str.ofString "routeloom.fletcher") 255, code := Value.ref 69 } } ::
  { cls := Value.type "tuple", data := Data.seq #[] } ::
  { cls := Value.none, data := Data.fields #[] } ::
  { cls := Value.type "tuple", data := Data.seq #[Value.str (Str.ofString "octets") 284, Value.str (Str.ofString "total") 285, Value.str (Str.ofString "place") 286, Value.str (Str.ofString "octet") 287] } ::
  { cls := Value.type "tuple", data := Data.seq #[] } ::
  { cls := Value.none, data := Data.func { name := Str.ofString "internet_sum", qualname := Str.ofString "internet_sum", params := fnParams (stmtAt rowBody 17), body := fnBody (stmtAt rowBody 17), scope := fnScope (stmtAt rowBody 17), globals := 0, closure := [], defaults := Value.none, kwdefaults := Value.none } } ::
  { cls := Value.type "code", data := Data.fields #[Value.str (Str.ofString "internet_sum") 281, Value.str (Str.ofString "internet_sum") 282, Value.str (Str.ofString "/claim/cut.py") 283, Value.int 48 0, Value.int 1 0, Value.int 0 0, Value.int 0 0, Value.int 3 0, Value.ref 71, Value.bool true, Value.int 181 0, Value.ref 72, Value.none, Value.ref 73, Value.ref 74, Value.ref 75, Value.int 288 0, Value.int 48 0, Value.str (Str.ofString "/claim/cut.py") 289] } ::
  { cls := Value.type "function", data := Data.func { name := Str.ofString "internet_sum", qualname := Str.ofString "internet_sum", params := fnParams (stmtAt rowBody 17), body := fnBody (stmtAt rowBody 17), scope := fnScope (stmtAt rowBody 17), globals := 3, closure := [], defaults := Value.none, kwdefaults := Value.none, pyModule := Value.str (Str.ofString "routeloom.fletcher") 255, code := Value.ref 76 } } :: [])
noncomputable def cutC1 (P : Params) : List Obj := renew (cutC0 P) [(2, { cls := Value.none, data := Data.dict #[{ hash := PyData.keyHash P (Str.ofString "type.__subclasses__.Exception.0"), key := Value.str (Str.ofString "type.__subclasses__.Exception.0") 318, val := Value.int 94 0 }, { hash := PyData.keyHash P (Str.ofString "type.__subclasses__.Exception.n"), key := Value.str (Str.ofString "type.__subclasses__.Exception.n") 319, val := Value.int 1 0 }] 2 }), (3, { cls := Value.type "dict", data := Data.dict (List.toArray ({ hash := PyData.keyHash P (Str.ofString "__name__"), key := Value.str (Str.ofString "__name__") 165, val := Value.str (Str.ofString "routeloom.errors") 291 } :: { hash := PyData.keyHash P (Str.ofString "__doc__"), key := Value.str (Str.ofString "__doc__") 166, val := Value.none } :: { hash := PyData.keyHash P (Str.ofString "__package__"), key := Value.str (Str.ofString "__package__") 167, val := Value.none } :: { hash := PyData.keyHash P (Str.ofString "__loader__"), key := Value.str (Str.ofString "__loader__") 168, val := Value.builtin "__main__.__loader__#opaque" } :: { hash := PyData.keyHash P (Str.ofString "__spec__"), key := Value.str (Str.ofString "__spec__") 169, val := Value.none } :: { hash := PyData.keyHash P (Str.ofString "__annotations__"), key := Value.str (Str.ofString "__annotations__") 170, val := Value.ref 6 } :: { hash := PyData.keyHash P (Str.ofString "__builtins__"), key := Value.str (Str.ofString "__builtins__") 171, val := Value.ref 4 } :: { hash := PyData.keyHash P (Str.ofString "__file__"), key := Value.str (Str.ofString "__file__") 173, val := Value.str (Str.ofString "/claim/cut.py") 172 } :: { hash := PyData.keyHash P (Str.ofString "__cached__"), key := Value.str (Str.ofString "__cached__") 174, val := Value.none } :: { hash := PyData.keyHash P (Str.ofString "E_BIT"), key := Value.str (Str.ofString "E_BIT") 190, val := Value.int 2 189 } :: { hash := PyData.keyHash P (Str.ofString "hello_of"), key := Value.str (Str.ofString "hello_of") 199, val := Value.ref 21 } :: { hash := PyData.keyHash P (Str.ofString "STATES"), key := Value.str (Str.ofString "STATES") 210, val := Value.ref 22 } :: { hash := PyData.keyHash P (Str.ofString "is_at_least"), key := Value.str (Str.ofString "is_at_least") 218, val := Value.ref 29 } :: { hash := PyData.keyHash P (Str.ofString "is_told"), key := Value.str (Str.ofString "is_told") 225, val := Value.ref 36 } :: { hash := PyData.keyHash P (Str.ofString "SEND_DELAY"), key := Value.str (Str.ofString "SEND_DELAY") 229, val := Value.int 1 228 } :: { hash := PyData.keyHash P (Str.ofString "MOST_NAMED"), key := Value.str (Str.ofString "MOST_NAMED") 231, val := Value.int 16367 230 } :: { hash := PyData.keyHash P (Str.ofString "new_iface"), key := Value.str (Str.ofString "new_iface") 240, val := Value.ref 43 } :: { hash := PyData.keyHash P (Str.ofString "hello_view"), key := Value.str (Str.ofString "hello_view") 248, val := Value.ref 50 } :: { hash := PyData.keyHash P (Str.ofString "own_hello"), key := Value.str (Str.ofString "own_hello") 254, val := Value.ref 56 } :: { hash := PyData.keyHash P (Str.ofString "MODULUS"), key := Value.str (Str.ofString "MODULUS") 258, val := Value.int 255 257 } :: { hash := PyData.keyHash P (Str.ofString "fletcher_pair"), key := Value.str (Str.ofString "fletcher_pair") 268, val := Value.ref 63 } :: { hash := PyData.keyHash P (Str.ofString "fletcher_sum"), key := Value.str (Str.ofString "fletcher_sum") 280, val := Value.ref 70 } :: { hash := PyData.keyHash P (Str.ofString "internet_sum"), key := Value.str (Str.ofString "internet_sum") 290, val := Value.ref 77 } :: { hash := PyData.keyHash P (Str.ofString "RouteError"), key := Value.str (Str.ofString "RouteError") 321, val := Value.ref 94 } :: [])) 24 }), (12, { cls := Value.none, data := Data.fields #[Value.int 3 0, Value.int 0 0, Value.ref 20, Value.int 8 0, Value.int 0 0, Value.ref 28, Value.int 10 0, Value.int 0 0, Value.ref 35, Value.int 15 0, Value.int 0 0, Value.ref 42, Value.int 21 0, Value.int 0 0, Value.ref 49, Value.int 26 0, Value.int 0 0, Value.ref 55, Value.int 33 0, Value.int 0 0, Value.ref 62, Value.int 39 0, Value.int 0 0, Value.ref 69, Value.int 48 0, Value.int 0 0, Value.ref 76, Value.int 55 0, Value.int 0 0, Value.ref 83] })] ++ (
  { cls := Value.type "tuple", data := Data.seq #[Value.type "Exception"] } ::
  { cls := Value.type "builtin_function_or_method", data := Data.fields #[Value.builtin "type.__prepare__", Value.type "type"] } ::
  { cls := Value.type "dict", data := Data.dict #[{ hash := PyData.keyHash P (Str.ofString "__module__"), key := Value.str (Str.ofString "__module__") 300, val := Value.str (Str.ofString "routeloom.errors") 291 }, { hash := PyData.keyHash P (Str.ofString "__qualname__"), key := Value.str (Str.ofString "__qualname__") 302, val := Value.str (Str.ofString "RouteError") 301 }, { hash := PyData.keyHash P (Str.ofString "__firstlineno__"), key := Value.str (Str.ofString "__firstlineno__") 304, val := Value.int 55 303 }, { hash := PyData.keyHash P (Str.ofString "__init__"), key := Value.str (Str.ofString "__init__") 312, val := Value.ref 91 }, { hash := PyData.keyHash P (Str.ofString "__static_attributes__"), key := Value.str (Str.ofString "__static_attributes__") 314, val := Value.ref 92 }] 5 } ::
  { cls := Value.type "tuple", data := Data.seq #[] } ::
  { cls := Value.none, data := Data.fields #[Value.int 57 0, Value.int 4 0, Value.ref 90] } ::
  { cls := Value.type "code", data := Data.fields #[Value.str (Str.ofString "RouteError") 295, Value.str (Str.ofString "RouteError") 296, Value.str (Str.ofString "/claim/cut.py") 297, Value.int 55 0, Value.int 0 0, Value.int 0 0, Value.int 0 0, Value.int 0 0, Value.ref 81, Value.bool false, Value.int 181 0, Value.ref 82, Value.none, Value.none, Value.none, Value.none, Value.int 298 0, Value.int 55 0, Value.str (Str.ofString "/claim/cut.py") 299] } ::
  { cls := Value.type "frame", slots := #[some (Value.ref 83), some (Value.ref 3), some (Value.ref 80), none, some (Value.str (Str.ofString "routeloom.errors") 291), none, some (Value.ref 0)] } ::
  { cls := Value.type "tuple", data := Data.seq #[] } ::
  { cls := Value.none, data := Data.fields #[] } ::
  { cls := Value.type "tuple", data := Data.seq #[Value.str (Str.ofString "self") 308, Value.str (Str.ofString "text") 309] } ::
  { cls := Value.type "tuple", data := Data.seq #[] } ::
  { cls := Value.none, data := Data.func { name := Str.ofString "__init__", qualname := Str.ofString "RouteError.__init__", params := fnParams (stmtAt (clsBody (stmtAt rowBody 19)) 0), body := fnBody (stmtAt (clsBody (stmtAt rowBody 19)) 0), scope := fnScope (stmtAt (clsBody (stmtAt rowBody 19)) 0), globals := 0, closure := [], defaults := Value.none, kwdefaults := Value.none } } ::
  { cls := Value.type "code", data := Data.fields #[Value.str (Str.ofString "__init__") 305, Value.str (Str.ofString "RouteError.__init__") 306, Value.str (Str.ofString "/claim/cut.py") 307, Value.int 57 0, Value.int 2 0, Value.int 0 0, Value.int 0 0, Value.int 3 0, Value.ref 85, Value.bool true, Value.int 181 0, Value.ref 86, Value.none, Value.ref 87, Value.ref 88, Value.ref 89, Value.int 310 0, Value.int 57 0, Value.str (Str.ofString "/claim/cut.py") 311] } ::
  { cls := Value.type "function", data := Data.func { name := Str.ofString "__init__", qualname := Str.ofString "RouteError.__init__", params := fnParams (stmtAt (clsBody (stmtAt rowBody 19)) 0), body := fnBody (stmtAt (clsBody (stmtAt rowBody 19)) 0), scope := fnScope (stmtAt (clsBody (stmtAt rowBody 19)) 0), globals := 3, closure := [], defaults := Value.none, kwdefaults := Value.none, pyModule := Value.str (Str.ofString "routeloom.errors") 291, code := Value.ref 90 } } ::
  { cls := Value.type "tuple", data := Data.seq #[Value.str (Str.ofString "text") 313] } ::
  { cls := Value.type "dict", data := Data.dict #[{ hash := PyData.keyHash P (Str.ofString "__module__"), key := Value.str (Str.ofString "__module__") 300, val := Value.str (Str.ofString "routeloom.errors") 291 }, { hash := PyData.keyHash P (Str.ofString "__firstlineno__"), key := Value.str (Str.ofString "__firstlineno__") 304, val := Value.int 55 303 }, { hash := PyData.keyHash P (Str.ofString "__init__"), key := Value.str (Str.ofString "__init__") 312, val := Value.ref 91 }, { hash := PyData.keyHash P (Str.ofString "__static_attributes__"), key := Value.str (Str.ofString "__static_attributes__") 314, val := Value.ref 92 }, { hash := PyData.keyHash P (Str.ofString "__weakref__"), key := Value.str (Str.ofString "__weakref__") 316, val := Value.ref 95 }, { hash := PyData.keyHash P (Str.ofString "__doc__"), key := Value.str (Str.ofString "__doc__") 317, val := Value.none }] 3 } ::
  { cls := Value.type "type", data := Data.cls { name := Str.ofString "RouteError", bases := [Value.type "Exception"], mro := [Value.ref 94, Value.type "Exception", Value.type "BaseException", Value.type "object"], ns := 93, qualname := Str.ofString "RouteError" }, slots := #[some (Value.ref 78), none, some (Value.str (Str.ofString "RouteError") 293), some (Value.str (Str.ofString "RouteError") 301), some (Value.builtin "Exception.__new__"), some (Value.bool true)] } ::
  { cls := Value.type "getset_descriptor", data := Data.fields #[Value.str (Str.ofString "__weakref__") 315, Value.ref 94, Value.builtin "ExceptionGroup.__weakref__", Value.none] } ::
  { cls := Value.type "super", data := Data.fields #[Value.ref 94, Value.ref 94, Value.ref 94] } ::
  { cls := Value.type "builtin_function_or_method", data := Data.fields #[Value.builtin "object.__init_subclass__", Value.ref 94] } :: [])
noncomputable def cutC2 (P : Params) : List Obj := renew (cutC1 P) [(3, { cls := Value.type "dict", data := Data.dict (List.toArray ({ hash := PyData.keyHash P (Str.ofString "__name__"), key := Value.str (Str.ofString "__name__") 165, val := Value.str (Str.ofString "routeloom.errors") 291 } :: { hash := PyData.keyHash P (Str.ofString "__doc__"), key := Value.str (Str.ofString "__doc__") 166, val := Value.none } :: { hash := PyData.keyHash P (Str.ofString "__package__"), key := Value.str (Str.ofString "__package__") 167, val := Value.none } :: { hash := PyData.keyHash P (Str.ofString "__loader__"), key := Value.str (Str.ofString "__loader__") 168, val := Value.builtin "__main__.__loader__#opaque" } :: { hash := PyData.keyHash P (Str.ofString "__spec__"), key := Value.str (Str.ofString "__spec__") 169, val := Value.none } :: { hash := PyData.keyHash P (Str.ofString "__annotations__"), key := Value.str (Str.ofString "__annotations__") 170, val := Value.ref 6 } :: { hash := PyData.keyHash P (Str.ofString "__builtins__"), key := Value.str (Str.ofString "__builtins__") 171, val := Value.ref 4 } :: { hash := PyData.keyHash P (Str.ofString "__file__"), key := Value.str (Str.ofString "__file__") 173, val := Value.str (Str.ofString "/claim/cut.py") 172 } :: { hash := PyData.keyHash P (Str.ofString "__cached__"), key := Value.str (Str.ofString "__cached__") 174, val := Value.none } :: { hash := PyData.keyHash P (Str.ofString "E_BIT"), key := Value.str (Str.ofString "E_BIT") 190, val := Value.int 2 189 } :: { hash := PyData.keyHash P (Str.ofString "hello_of"), key := Value.str (Str.ofString "hello_of") 199, val := Value.ref 21 } :: { hash := PyData.keyHash P (Str.ofString "STATES"), key := Value.str (Str.ofString "STATES") 210, val := Value.ref 22 } :: { hash := PyData.keyHash P (Str.ofString "is_at_least"), key := Value.str (Str.ofString "is_at_least") 218, val := Value.ref 29 } :: { hash := PyData.keyHash P (Str.ofString "is_told"), key := Value.str (Str.ofString "is_told") 225, val := Value.ref 36 } :: { hash := PyData.keyHash P (Str.ofString "SEND_DELAY"), key := Value.str (Str.ofString "SEND_DELAY") 229, val := Value.int 1 228 } :: { hash := PyData.keyHash P (Str.ofString "MOST_NAMED"), key := Value.str (Str.ofString "MOST_NAMED") 231, val := Value.int 16367 230 } :: { hash := PyData.keyHash P (Str.ofString "new_iface"), key := Value.str (Str.ofString "new_iface") 240, val := Value.ref 43 } :: { hash := PyData.keyHash P (Str.ofString "hello_view"), key := Value.str (Str.ofString "hello_view") 248, val := Value.ref 50 } :: { hash := PyData.keyHash P (Str.ofString "own_hello"), key := Value.str (Str.ofString "own_hello") 254, val := Value.ref 56 } :: { hash := PyData.keyHash P (Str.ofString "MODULUS"), key := Value.str (Str.ofString "MODULUS") 258, val := Value.int 255 257 } :: { hash := PyData.keyHash P (Str.ofString "fletcher_pair"), key := Value.str (Str.ofString "fletcher_pair") 268, val := Value.ref 63 } :: { hash := PyData.keyHash P (Str.ofString "fletcher_sum"), key := Value.str (Str.ofString "fletcher_sum") 280, val := Value.ref 70 } :: { hash := PyData.keyHash P (Str.ofString "internet_sum"), key := Value.str (Str.ofString "internet_sum") 290, val := Value.ref 77 } :: { hash := PyData.keyHash P (Str.ofString "RouteError"), key := Value.str (Str.ofString "RouteError") 321, val := Value.ref 94 } :: { hash := PyData.keyHash P (Str.ofString "ConfigError"), key := Value.str (Str.ofString "ConfigError") 337, val := Value.ref 107 } :: [])) 25 }), (12, { cls := Value.none, data := Data.fields #[Value.int 3 0, Value.int 0 0, Value.ref 20, Value.int 8 0, Value.int 0 0, Value.ref 28, Value.int 10 0, Value.int 0 0, Value.ref 35, Value.int 15 0, Value.int 0 0, Value.ref 42, Value.int 21 0, Value.int 0 0, Value.ref 49, Value.int 26 0, Value.int 0 0, Value.ref 55, Value.int 33 0, Value.int 0 0, Value.ref 62, Value.int 39 0, Value.int 0 0, Value.ref 69, Value.int 48 0, Value.int 0 0, Value.ref 76, Value.int 55 0, Value.int 0 0, Value.ref 83, Value.int 60 0, Value.int 0 0, Value.ref 103] }), (94, { cls := Value.type "type", data := Data.cls { name := Str.ofString "RouteError", bases := [Value.type "Exception"], mro := [Value.ref 94, Value.type "Exception", Value.type "BaseException", Value.type "object"], ns := 93, qualname := Str.ofString "RouteError", subclasses := [Value.ref 107] }, slots := #[some (Value.ref 78), none, some (Value.str (Str.ofString "RouteError") 293), some (Value.str (Str.ofString "RouteError") 301), some (Value.builtin "Exception.__new__"), some (Value.bool true)] })] ++ (
  { cls := Value.type "tuple", data := Data.seq #[Value.ref 94] } ::
  { cls := Value.type "builtin_function_or_method", data := Data.fields #[Value.builtin "type.__prepare__", Value.type "type"] } ::
  { cls := Value.type "dict", data := Data.dict #[{ hash := PyData.keyHash P (Str.ofString "__module__"), key := Value.str (Str.ofString "__module__") 329, val := Value.str (Str.ofString "routeloom.errors") 291 }, { hash := PyData.keyHash P (Str.ofString "__qualname__"), key := Value.str (Str.ofString "__qualname__") 331, val := Value.str (Str.ofString "ConfigError") 330 }, { hash := PyData.keyHash P (Str.ofString "__firstlineno__"), key := Value.str (Str.ofString "__firstlineno__") 333, val := Value.int 60 332 }, { hash := PyData.keyHash P (Str.ofString "__static_attributes__"), key := Value.str (Str.ofString "__static_attributes__") 334, val := Value.ref 105 }] 4 } ::
  { cls := Value.type "tuple", data := Data.seq #[] } ::
  { cls := Value.none, data := Data.fields #[] } ::
  { cls := Value.type "code", data := Data.fields #[Value.str (Str.ofString "ConfigError") 324, Value.str (Str.ofString "ConfigError") 325, Value.str (Str.ofString "/claim/cut.py") 326, Value.int 60 0, Value.int 0 0, Value.int 0 0, Value.int 0 0, Value.int 0 0, Value.ref 101, Value.bool false, Value.int 181 0, Value.ref 102, Value.none, Value.none, Value.none, Value.none, Value.int 327 0, Value.int 60 0, Value.str (Str.ofString "/claim/cut.py") 328] } ::
  { cls := Value.type "frame", slots := #[some (Value.ref 103), some (Value.ref 3), some (Value.ref 100), none, some (Value.str (Str.ofString "routeloom.errors") 291), none, some (Value.ref 0)] } ::
  { cls := Value.type "tuple", data := Data.seq #[] } ::
  { cls := Value.type "dict", data := Data.dict #[{ hash := PyData.keyHash P (Str.ofString "__module__"), key := Value.str (Str.ofString "__module__") 329, val := Value.str (Str.ofString "routeloom.errors") 291 }, { hash := PyData.keyHash P (Str.ofString "__firstlineno__"), key := Value.str (Str.ofString "__firstlineno__") 333, val := Value.int 60 332 }, { hash := PyData.keyHash P (Str.ofString "__static_attributes__"), key := Value.str (Str.ofString "__static_attributes__") 334, val := Value.ref 105 }, { hash := PyData.keyHash P (Str.ofString "__doc__"), key := Value.str (Str.ofString "__doc__") 335, val := Value.none }] 2 } ::
  { cls := Value.type "type", data := Data.cls { name := Str.ofString "ConfigError", bases := [Value.ref 94], mro := [Value.ref 107, Value.ref 94, Value.type "Exception", Value.type "BaseException", Value.type "object"], ns := 106, qualname := Str.ofString "ConfigError" }, slots := #[some (Value.ref 98), none, some (Value.str (Str.ofString "ConfigError") 322), some (Value.str (Str.ofString "ConfigError") 330), some (Value.builtin "Exception.__new__"), some (Value.bool true)] } ::
  { cls := Value.type "super", data := Data.fields #[Value.ref 107, Value.ref 107, Value.ref 107] } ::
  { cls := Value.type "builtin_function_or_method", data := Data.fields #[Value.builtin "object.__init_subclass__", Value.ref 107] } :: [])
noncomputable def cutC3 (P : Params) : List Obj := renew (cutC2 P) [(3, { cls := Value.type "dict", data := Data.dict (List.toArray ({ hash := PyData.keyHash P (Str.ofString "__name__"), key := Value.str (Str.ofString "__name__") 165, val := Value.str (Str.ofString "routeloom.lsaform") 393 } :: { hash := PyData.keyHash P (Str.ofString "__doc__"), key := Value.str (Str.ofString "__doc__") 166, val := Value.none } :: { hash := PyData.keyHash P (Str.ofString "__package__"), key := Value.str (Str.ofString "__package__") 167, val := Value.none } :: { hash := PyData.keyHash P (Str.ofString "__loader__"), key := Value.str (Str.ofString "__loader__") 168, val := Value.builtin "__main__.__loader__#opaque" } :: { hash := PyData.keyHash P (Str.ofString "__spec__"), key := Value.str (Str.ofString "__spec__") 169, val := Value.none } :: { hash := PyData.keyHash P (Str.ofString "__annotations__"), key := Value.str (Str.ofString "__annotations__") 170, val := Value.ref 6 } :: { hash := PyData.keyHash P (Str.ofString "__builtins__"), key := Value.str (Str.ofString "__builtins__") 171, val := Value.ref 4 } :: { hash := PyData.keyHash P (Str.ofString "__file__"), key := Value.str (Str.ofString "__file__") 173, val := Value.str (Str.ofString "/claim/cut.py") 172 } :: { hash := PyData.keyHash P (Str.ofString "__cached__"), key := Value.str (Str.ofString "__cached__") 174, val := Value.none } :: { hash := PyData.keyHash P (Str.ofString "E_BIT"), key := Value.str (Str.ofString "E_BIT") 190, val := Value.int 2 189 } :: { hash := PyData.keyHash P (Str.ofString "hello_of"), key := Value.str (Str.ofString "hello_of") 199, val := Value.ref 21 } :: { hash := PyData.keyHash P (Str.ofString "STATES"), key := Value.str (Str.ofString "STATES") 210, val := Value.ref 22 } :: { hash := PyData.keyHash P (Str.ofString "is_at_least"), key := Value.str (Str.ofString "is_at_least") 218, val := Value.ref 29 } :: { hash := PyData.keyHash P (Str.ofString "is_told"), key := Value.str (Str.ofString "is_told") 225, val := Value.ref 36 } :: { hash := PyData.keyHash P (Str.ofString "SEND_DELAY"), key := Value.str (Str.ofString "SEND_DELAY") 229, val := Value.int 1 228 } :: { hash := PyData.keyHash P (Str.ofString "MOST_NAMED"), key := Value.str (Str.ofString "MOST_NAMED") 231, val := Value.int 16367 230 } :: { hash := PyData.keyHash P (Str.ofString "new_iface"), key := Value.str (Str.ofString "new_iface") 240, val := Value.ref 43 } :: { hash := PyData.keyHash P (Str.ofString "hello_view"), key := Value.str (Str.ofString "hello_view") 248, val := Value.ref 50 } :: { hash := PyData.keyHash P (Str.ofString "own_hello"), key := Value.str (Str.ofString "own_hello") 254, val := Value.ref 56 } :: { hash := PyData.keyHash P (Str.ofString "MODULUS"), key := Value.str (Str.ofString "MODULUS") 258, val := Value.int 255 257 } :: { hash := PyData.keyHash P (Str.ofString "fletcher_pair"), key := Value.str (Str.ofString "fletcher_pair") 268, val := Value.ref 63 } :: { hash := PyData.keyHash P (Str.ofString "fletcher_sum"), key := Value.str (Str.ofString "fletcher_sum") 280, val := Value.ref 70 } :: { hash := PyData.keyHash P (Str.ofString "internet_sum"), key := Value.str (Str.ofString "internet_sum") 290, val := Value.ref 77 } :: { hash := PyData.keyHash P (Str.ofString "RouteError"), key := Value.str (Str.ofString "RouteError") 321, val := Value.ref 94 } :: { hash := PyData.keyHash P (Str.ofString "ConfigError"), key := Value.str (Str.ofString "ConfigError") 337, val := Value.ref 107 } :: { hash := PyData.keyHash P (Str.ofString "put_number"), key := Value.str (Str.ofString "put_number") 345, val := Value.ref 114 } :: { hash := PyData.keyHash P (Str.ofString "put_u8"), key := Value.str (Str.ofString "put_u8") 352, val := Value.ref 121 } :: { hash := PyData.keyHash P (Str.ofString "put_u16"), key := Value.str (Str.ofString "put_u16") 359, val := Value.ref 128 } :: { hash := PyData.keyHash P (Str.ofString "put_u24"), key := Value.str (Str.ofString "put_u24") 366, val := Value.ref 135 } :: { hash := PyData.keyHash P (Str.ofString "put_u32"), key := Value.str (Str.ofString "put_u32") 373, val := Value.ref 142 } :: { hash := PyData.keyHash P (Str.ofString "mask_of"), key := Value.str (Str.ofString "mask_of") 383, val := Value.ref 149 } :: { hash := PyData.keyHash P (Str.ofString "seq_octets_number"), key := Value.str (Str.ofString "seq_octets_number") 392, val := Value.ref 156 } :: { hash := PyData.keyHash P (Str.ofString "BITS"), key := Value.str (Str.ofString "BITS") 396, val := Value.int 32 395 } :: { hash := PyData.keyHash P (Str.ofString "HEAD_SIZE"), key := Value.str (Str.ofString "HEAD_SIZE") 398, val := Value.int 20 397 } :: { hash := PyData.keyHash P (Str.ofString "SUM_PLACE"), key := Value.str (Str.ofString "SUM_PLACE") 400, val := Value.int 14 399 } :: { hash := PyData.keyHash P (Str.ofString "AGE_SIZE"), key := Value.str (Str.ofString "AGE_SIZE") 402, val := Value.int 2 401 } :: { hash := PyData.keyHash P (Str.ofString "TYPE_TWO"), key := Value.str (Str.ofString "TYPE_TWO") 404, val := Value.int 128 403 } :: { hash := PyData.keyHash P (Str.ofString "put_link"), key := Value.str (Str.ofString "put_link") 415, val := Value.ref 163 } :: { hash := PyData.keyHash P (Str.ofString "put_body"), key := Value.str (Str.ofString "put_body") 421, val := Value.ref 168 } :: { hash := PyData.keyHash P (Str.ofString "put_head"), key := Value.str (Str.ofString "put_head") 438, val := Value.ref 175 } :: { hash := PyData.keyHash P (Str.ofString "total_of"), key := Value.str (Str.ofString "total_of") 446, val := Value.ref 182 } :: { hash := PyData.keyHash P (Str.ofString "put_lsa"), key := Value.str (Str.ofString "put_lsa") 455, val := Value.ref 189 } :: [])) 42 }), (12, { cls := Value.none, data := Data.fields #[Value.int 3 0, Value.int 0 0, Value.ref 20, Value.int 8 0, Value.int 0 0, Value.ref 28, Value.int 10 0, Value.int 0 0, Value.ref 35, Value.int 15 0, Value.int 0 0, Value.ref 42, Value.int 21 0, Value.int 0 0, Value.ref 49, Value.int 26 0, Value.int 0 0, Value.ref 55, Value.int 33 0, Value.int 0 0, Value.ref 62, Value.int 39 0, Value.int 0 0, Value.ref 69, Value.int 48 0, Value.int 0 0, Value.ref 76, Value.int 55 0, Value.int 0 0, Value.ref 83, Value.int 60 0, Value.int 0 0, Value.ref 103, Value.int 63 0, Value.int 0 0, Value.ref 113, Value.int 67 0, Value.int 0 0, Value.ref 120, Value.int 69 0, Value.int 0 0, Value.ref 127, Value.int 71 0, Value.int 0 0, Value.ref 134, Value.int 73 0, Value.int 0 0, Value.ref 141, Value.int 76 0, Value.int 0 0, Value.ref 148, Value.int 79 0, Value.int 0 0, Value.ref 155, Value.int 87 0, Value.int 0 0, Value.ref 162, Value.int 90 0, Value.int 0 0, Value.ref 167, Value.int 103 0, Value.int 0 0, Value.ref 174, Value.int 107 0, Value.int 0 0, Value.ref 181, Value.int 110 0, Value.int 0 0, Value.ref 188] })] ++ (
  { cls := Value.type "tuple", data := Data.seq #[] } ::
  { cls := Value.none, data := Data.fields #[] } ::
  { cls := Value.none, data := Data.func { name := Str.ofString "put_number", qualname := Str.ofString "put_number", params := fnParams (stmtAt rowBody 22), body := fnBody (stmtAt rowBody 22), scope := fnScope (stmtAt rowBody 22), globals := 0, closure := [], defaults := Value.none, kwdefaults := Value.none } } ::
  { cls := Value.type "code", data := Data.fields #[Value.str (Str.ofString "put_number") 340, Value.str (Str.ofString "put_number") 341, Value.str (Str.ofString "/claim/cut.py") 342, Value.int 63 0, Value.int 2 0, Value.int 0 0, Value.int 0 0, Value.int 3 0, Value.ref 110, Value.bool true, Value.int 181 0, Value.ref 111, Value.none, Value.none, Value.none, Value.ref 112, Value.int 343 0, Value.int 63 0, Value.str (Str.ofString "/claim/cut.py") 344] } ::
  { cls := Value.type "function", data := Data.func { name := Str.ofString "put_number", qualname := Str.ofString "put_number", params := fnParams (stmtAt rowBody 22), body := fnBody (stmtAt rowBody 22), scope := fnScope (stmtAt rowBody 22), globals := 3, closure := [], defaults := Value.none, kwdefaults := Value.none, pyModule := Value.str (Str.ofString "routeloom.octets") 338, code := Value.ref 113 } } ::
  { cls := Value.type "tuple", data := Data.seq #[] } ::
  { cls := Value.none, data := Data.fields #[] } ::
  { cls := Value.type "tuple", data := Data.seq #[Value.str (Str.ofString "number") 349] } ::
  { cls := Value.type "tuple", data := Data.seq #[] } ::
  { cls := Value.none, data := Data.func { name := Str.ofString "put_u8", qualname := Str.ofString "put_u8", params := fnParams (stmtAt rowBody 23), body := fnBody (stmtAt rowBody 23), scope := fnScope (stmtAt rowBody 23), globals := 0, closure := [], defaults := Value.none, kwdefaults := Value.none } } ::
  { cls := Value.type "code", data := Data.fields #[Value.str (Str.ofString "put_u8") 346, Value.str (Str.ofString "put_u8") 347, Value.str (Str.ofString "/claim/cut.py") 348, Value.int 67 0, Value.int 1 0, Value.int 0 0, Value.int 0 0, Value.int 3 0, Value.ref 115, Value.bool true, Value.int 181 0, Value.ref 116, Value.none, Value.ref 117, Value.ref 118, Value.ref 119, Value.int 350 0, Value.int 67 0, Value.str (Str.ofString "/claim/cut.py") 351] } ::
  { cls := Value.type "function", data := Data.func { name := Str.ofString "put_u8", qualname := Str.ofString "put_u8", params := fnParams (stmtAt rowBody 23), body := fnBody (stmtAt rowBody 23), scope := fnScope (stmtAt rowBody 23), globals := 3, closure := [], defaults := Value.none, kwdefaults := Value.none, pyModule := Value.str (Str.ofString "routeloom.octets") 338, code := Value.ref 120 } } ::
  { cls := Value.type "tuple", data := Data.seq #[] } ::
  { cls := Value.none, data := Data.fields #[] } ::
  { cls := Value.type "tuple", data := Data.seq #[Value.str (Str.ofString "number") 356] } ::
  { cls := Value.type "tuple", data := Data.seq #[] } ::
  { cls := Value.none, data := Data.func { name := Str.ofString "put_u16", qualname := Str.ofString "put_u16", params := fnParams (stmtAt rowBody 24), body := fnBody (stmtAt rowBody 24), scope := fnScope (stmtAt rowBody 24), globals := 0, closure := [], defaults := Value.none, kwdefaults := Value.none } } ::
  { cls := Value.type "code", data := Data.fields #[Value.str (Str.ofString "put_u16") 353, Value.str (Str.ofString "put_u16") 354, Value.str (Str.ofString "/claim/cut.py") 355, Value.int 69 0, Value.int 1 0, Value.int 0 0, Value.int 0 0, Value.int 3 0, Value.ref 122, Value.bool true, Value.int 181 0, Value.ref 123, Value.none, Value.ref 124, Value.ref 125, Value.ref 126, Value.int 357 0, Value.int 69 0, Value.str (Str.ofString "/claim/cut.py") 358] } ::
  { cls := Value.type "function", data := Data.func { name := Str.ofString "put_u16", qualname := Str.ofString "put_u16", params := fnParams (stmtAt rowBody 24), body := fnBody (stmtAt rowBody 24), scope := fnScope (stmtAt rowBody 24), globals := 3, closure := [], defaults := Value.none, kwdefaults := Value.none, pyModule := Value.str (Str.ofString "routeloom.octets") 338, code := Value.ref 127 } } ::
  { cls := Value.type "tuple", data := Data.seq #[] } ::
  { cls := Value.none, data := Data.fields #[] } ::
  { cls := Value.type "tuple", data := Data.seq #[Value.str (Str.ofString "number") 363] } ::
  { cls := Value.type "tuple", data := Data.seq #[] } ::
  { cls := Value.none, data := Data.func { name := Str.ofString "put_u24", qualname := Str.ofString "put_u24", params := fnParams (stmtAt rowBody 25), body := fnBody (stmtAt rowBody 25), scope := fnScope (stmtAt rowBody 25), globals := 0, closure := [], defaults := Value.none, kwdefaults := Value.none } } ::
  { cls := Value.type "code", data := Data.fields #[Value.str (Str.ofString "put_u24") 360, Value.str (Str.ofString "put_u24") 361, Value.str (Str.ofString "/claim/cut.py") 362, Value.int 71 0, Value.int 1 0, Value.int 0 0, Value.int 0 0, Value.int 3 0, Value.ref 129, Value.bool true, Value.int 181 0, Value.ref 130, Value.none, Value.ref 131, Value.ref 132, Value.ref 133, Value.int 364 0, Value.int 71 0, Value.str (Str.ofString "/claim/cut.py") 365] } ::
  { cls := Value.type "function", data := Data.func { name := Str.ofString "put_u24", qualname := Str.ofString "put_u24", params := fnParams (stmtAt rowBody 25), body := fnBody (stmtAt rowBody 25), scope := fnScope (stmtAt rowBody 25), globals := 3, closure := [], defaults := Value.none, kwdefaults := Value.none, pyModule := Value.str (Str.ofString "routeloom.octets") 338, code := Value.ref 134 } } ::
  { cls := Value.type "tuple", data := Data.seq #[] } ::
  { cls := Value.none, data := Data.fields #[] } ::
  { cls := Value.type "tuple", data := Data.seq #[Value.str (Str.ofString "number") 370] } ::
  { cls := Value.type "tuple", data := Data.seq #[] } ::
  { cls := Value.none, data := Data.func { name := Str.ofString "put_u32", qualname := Str.ofString "put_u32", params := fnParams (stmtAt rowBody 26), body := fnBody (stmtAt rowBody 26), scope := fnScope (stmtAt rowBody 26), globals := 0, closure := [], defaults := Value.none, kwdefaults := Value.none } } ::
  { cls := Value.type "code", data := Data.fields #[Value.str (Str.ofString "put_u32") 367, Value.str (Str.ofString "put_u32") 368, Value.str (Str.ofString "/claim/cut.py") 369, Value.int 73 0, Value.int 1 0, Value.int 0 0, Value.int 0 0, Value.int 3 0, Value.ref 136, Value.bool true, Value.int 181 0, Value.ref 137, Value.none, Value.ref 138, Value.ref 139, Value.ref 140, Value.int 371 0, Value.int 73 0, Value.str (Str.ofString "/claim/cut.py") 372] } ::
  { cls := Value.type "function", data := Data.func { name := Str.ofString "put_u32", qualname := Str.ofString "put_u32", params := fnParams (stmtAt rowBody 26), body := fnBody (stmtAt rowBody 26), scope := fnScope (stmtAt rowBody 26), globals := 3, closure := [], defaults := Value.none, kwdefaults := Value.none, pyModule := Value.str (Str.ofString "routeloom.octets") 338, code := Value.ref 141 } } ::
  { cls := Value.type "tuple", data := Data.seq #[] } ::
  { cls := Value.none, data := Data.fields #[] } ::
  { cls := Value.type "tuple", data := Data.seq #[Value.str (Str.ofString "length") 379, Value.str (Str.ofString "bits") 380] } ::
  { cls := Value.type "tuple", data := Data.seq #[] } ::
  { cls := Value.none, data := Data.func { name := Str.ofString "mask_of", qualname := Str.ofString "mask_of", params := fnParams (stmtAt rowBody 28), body := fnBody (stmtAt rowBody 28), scope := fnScope (stmtAt rowBody 28), globals := 0, closure := [], defaults := Value.none, kwdefaults := Value.none } } ::
  { cls := Value.type "code", data := Data.fields #[Value.str (Str.ofString "mask_of") 376, Value.str (Str.ofString "mask_of") 377, Value.str (Str.ofString "/claim/cut.py") 378, Value.int 76 0, Value.int 2 0, Value.int 0 0, Value.int 0 0, Value.int 3 0, Value.ref 143, Value.bool true, Value.int 181 0, Value.ref 144, Value.none, Value.ref 145, Value.ref 146, Value.ref 147, Value.int 381 0, Value.int 76 0, Value.str (Str.ofString "/claim/cut.py") 382] } ::
  { cls := Value.type "function", data := Data.func { name := Str.ofString "mask_of", qualname := Str.ofString "mask_of", params := fnParams (stmtAt rowBody 28), body := fnBody (stmtAt rowBody 28), scope := fnScope (stmtAt rowBody 28), globals := 3, closure := [], defaults := Value.none, kwdefaults := Value.none, pyModule := Value.str (Str.ofString "routeloom.prefixes") 374, code := Value.ref 148 } } ::
  { cls := Value.type "tuple", data := Data.seq #[] } ::
  { cls := Value.none, data := Data.fields #[] } ::
  { cls := Value.type "tuple", data := Data.seq #[Value.str (Str.ofString "seq") 389] } ::
  { cls := Value.type "tuple", data := Data.seq #[] } ::
  { cls := Value.none, data := Data.func { name := Str.ofString "seq_octets_number", qualname := Str.ofString "seq_octets_number", params := fnParams (stmtAt rowBody 30), body := fnBody (stmtAt rowBody 30), scope := fnScope (stmtAt rowBody 30), globals := 0, closure := [], defaults := Value.none, kwdefaults := Value.none } } ::
  { cls := Value.type "code", data := Data.fields #[Value.str (Str.ofString "seq_octets_number") 386, Value.str (Str.ofString "seq_octets_number") 387, Value.str (Str.ofString "/claim/cut.py") 388, Value.int 79 0, Value.int 1 0, Value.int 0 0, Value.int 0 0, Value.int 3 0, Value.ref 150, Value.bool true, Value.int 181 0, Value.ref 151, Value.none, Value.ref 152, Value.ref 153, Value.ref 154, Value.int 390 0, Value.int 79 0, Value.str (Str.ofString "/claim/cut.py") 391] } ::
  { cls := Value.type "function", data := Data.func { name := Str.ofString "seq_octets_number", qualname := Str.ofString "seq_octets_number", params := fnParams (stmtAt rowBody 30), body := fnBody (stmtAt rowBody 30), scope := fnScope (stmtAt rowBody 30), globals := 3, closure := [], defaults := Value.none, kwdefaults := Value.none, pyModule := Value.str (Str.ofString "routeloom.seqs") 384, code := Value.ref 155 } } ::
  { cls := Value.type "tuple", data := Data.seq #[] } ::
  { cls := Value.none, data := Data.fields #[] } ::
  { cls := Value.type "tuple", data := Data.seq #[Value.str (Str.ofString "link") 408, Value.str (Str.ofString "link_id") 409, Value.str (Str.ofString "link_data") 410, Value.str (Str.ofString "sort") 411, Value.str (Str.ofString "metric") 412] } ::
  { cls := Value.type "tuple", data := Data.seq #[] } ::
  { cls := Value.none, data := Data.func { name := Str.ofString "put_link", qualname := Str.ofString "put_link", params := fnParams (stmtAt rowBody 37), body := fnBody (stmtAt rowBody 37), scope := fnScope (stmtAt rowBody 37), globals := 0, closure := [], defaults := Value.none, kwdefaults := Value.none } } ::
  { cls := Value.type "code", data := Data.fields #[Value.str (Str.ofString "put_link") 405, Value.str (Str.ofString "put_link") 406, Value.str (Str.ofString "/claim/cut.py") 407, Value.int 87 0, Value.int 1 0, Value.int 0 0, Value.int 0 0, Value.int 3 0, Value.ref 157, Value.bool true, Value.int 181 0, Value.ref 158, Value.none, Value.ref 159, Value.ref 160, Value.ref 161, Value.int 413 0, Value.int 87 0, Value.str (Str.ofString "/claim/cut.py") 414] } ::
  { cls := Value.type "function", data := Data.func { name := Str.ofString "put_link", qualname := Str.ofString "put_link", params := fnParams (stmtAt rowBody 37), body := fnBody (stmtAt rowBody 37), scope := fnScope (stmtAt rowBody 37), globals := 3, closure := [], defaults := Value.none, kwdefaults := Value.none, pyModule := Value.str (Str.ofString "routeloom.lsaform") 393, code := Value.ref 162 } } ::
  { cls := Value.type "tuple", data := Data.seq #[] } ::
  { cls := Value.none, data := Data.fields #[] } ::
  { cls := Value.none, data := Data.func { name := Str.ofString "put_body", qualname := Str.ofString "put_body", params := fnParams (stmtAt rowBody 38), body := fnBody (stmtAt rowBody 38), scope := fnScope (stmtAt rowBody 38), globals := 0, closure := [], defaults := Value.none, kwdefaults := Value.none } } ::
  { cls := Value.type "code", data := Data.fields #[Value.str (Str.ofString "put_body") 416, Value.str (Str.ofString "put_body") 417, Value.str (Str.ofString "/claim/cut.py") 418, Value.int 90 0, Value.int 1 0, Value.int 0 0, Value.int 0 0, Value.int 3 0, Value.ref 164, Value.bool true, Value.int 181 0, Value.ref 165, Value.none, Value.none, Value.none, Value.ref 166, Value.int 419 0, Value.int 90 0, Value.str (Str.ofString "/claim/cut.py") 420] } ::
  { cls := Value.type "function", data := Data.func { name := Str.ofString "put_body", qualname := Str.ofString "put_body", params := fnParams (stmtAt rowBody 38), body := fnBody (stmtAt rowBody 38), scope := fnScope (stmtAt rowBody 38), globals := 3, closure := [], defaults := Value.none, kwdefaults := Value.none, pyModule := Value.str (Str.ofString "routeloom.lsaform") 393, code := Value.ref 167 } } ::
  { cls := Value.type "tuple", data := Data.seq #[] } ::
  { cls := Value.none, data := Data.fields #[] } ::
  { cls := Value.type "tuple", data := Data.seq #[Value.str (Str.ofString "head") 425, Value.str (Str.ofString "size") 426, Value.str (Str.ofString "total") 427, Value.str (Str.ofString "age") 428, Value.str (Str.ofString "options") 429, Value.str (Str.ofString "kind") 430, Value.str (Str.ofString "ls_id") 431, Value.str (Str.ofString "adv") 432, Value.str (Str.ofString "seq") 433, Value.str (Str.ofString "elder") 434, Value.str (Str.ofString "front") 435] } ::
  { cls := Value.type "tuple", data := Data.seq #[] } ::
  { cls := Value.none, data := Data.func { name := Str.ofString "put_head", qualname := Str.ofString "put_head", params := fnParams (stmtAt rowBody 39), body := fnBody (stmtAt rowBody 39), scope := fnScope (stmtAt rowBody 39), globals := 0, closure := [], defaults := Value.none, kwdefaults := Value.none } } ::
  { cls := Value.type "code", data := Data.fields #[Value.str (Str.ofString "put_head") 422, Value.str (Str.ofString "put_head") 423, Value.str (Str.ofString "/claim/cut.py") 424, Value.int 103 0, Value.int 3 0, Value.int 0 0, Value.int 0 0, Value.int 3 0, Value.ref 169, Value.bool true, Value.int 181 0, Value.ref 170, Value.none, Value.ref 171, Value.ref 172, Value.ref 173, Value.int 436 0, Value.int 103 0, Value.str (Str.ofString "/claim/cut.py") 437] } ::
  { cls := Value.type "function", data := Data.func { name := Str.ofString "put_head", qualname := Str.ofString "put_head", params := fnParams (stmtAt rowBody 39), body := fnBody (stmtAt rowBody 39), scope := fnScope (stmtAt rowBody 39), globals := 3, closure := [], defaults := Value.none, kwdefaults := Value.none, pyModule := Value.str (Str.ofString "routeloom.lsaform") 393, code := Value.ref 174 } } ::
  { cls := Value.type "tuple", data := Data.seq #[] } ::
  { cls := Value.none, data := Data.fields #[] } ::
  { cls := Value.type "tuple", data := Data.seq #[Value.str (Str.ofString "lsa") 442, Value.str (Str.ofString "octets") 443] } ::
  { cls := Value.type "tuple", data := Data.seq #[] } ::
  { cls := Value.none, data := Data.func { name := Str.ofString "total_of", qualname := Str.ofString "total_of", params := fnParams (stmtAt rowBody 40), body := fnBody (stmtAt rowBody 40), scope := fnScope (stmtAt rowBody 40), globals := 0, closure := [], defaults := Value.none, kwdefaults := Value.none } } ::
  { cls := Value.type "code", data := Data.fields #[Value.str (Str.ofString "total_of") 439, Value.str (Str.ofString "total_of") 440, Value.str (Str.ofString "/claim/cut.py") 441, Value.int 107 0, Value.int 1 0, Value.int 0 0, Value.int 0 0, Value.int 3 0, Value.ref 176, Value.bool true, Value.int 181 0, Value.ref 177, Value.none, Value.ref 178, Value.ref 179, Value.ref 180, Value.int 444 0, Value.int 107 0, Value.str (Str.ofString "/claim/cut.py") 445] } ::
  { cls := Value.type "function", data := Data.func { name := Str.ofString "total_of", qualname := Str.ofString "total_of", params := fnParams (stmtAt rowBody 40), body := fnBody (stmtAt rowBody 40), scope := fnScope (stmtAt rowBody 40), globals := 3, closure := [], defaults := Value.none, kwdefaults := Value.none, pyModule := Value.str (Str.ofString "routeloom.lsaform") 393, code := Value.ref 181 } } ::
  { cls := Value.type "tuple", data := Data.seq #[] } ::
  { cls := Value.none, data := Data.fields #[] } ::
  { cls := Value.type "tuple", data := Data.seq #[Value.str (Str.ofString "lsa") 450, Value.str (Str.ofString "head") 451, Value.str (Str.ofString "octets") 452] } ::
  { cls := Value.type "tuple", data := Data.seq #[] } ::
  { cls := Value.none, data := Data.func { name := Str.ofString "put_lsa", qualname := Str.ofString "put_lsa", params := fnParams (stmtAt rowBody 41), body := fnBody (stmtAt rowBody 41), scope := fnScope (stmtAt rowBody 41), globals := 0, closure := [], defaults := Value.none, kwdefaults := Value.none } } ::
  { cls := Value.type "code", data := Data.fields #[Value.str (Str.ofString "put_lsa") 447, Value.str (Str.ofString "put_lsa") 448, Value.str (Str.ofString "/claim/cut.py") 449, Value.int 110 0, Value.int 1 0, Value.int 0 0, Value.int 0 0, Value.int 3 0, Value.ref 183, Value.bool true, Value.int 181 0, Value.ref 184, Value.none, Value.ref 185, Value.ref 186, Value.ref 187, Value.int 453 0, Value.int 110 0, Value.str (Str.ofString "/claim/cut.py") 454] } ::
  { cls := Value.type "function", data := Data.func { name := Str.ofString "put_lsa", qualname := Str.ofString "put_lsa", params := fnParams (stmtAt rowBody 41), body := fnBody (stmtAt rowBody 41), scope := fnScope (stmtAt rowBody 41), globals := 3, closure := [], defaults := Value.none, kwdefaults := Value.none, pyModule := Value.str (Str.ofString "routeloom.lsaform") 393, code := Value.ref 188 } } :: [])
noncomputable def cutC4 (P : Params) : List Obj := renew (cutC3 P) [(3, { cls := Value.type "dict", data := Data.dict (List.toArray ({ hash := PyData.keyHash P (Str.ofString "__name__"), key := Value.str (Str.ofString "__name__") 165, val := Value.str (Str.ofString "law_rh0209_01") 536 } :: { hash := PyData.keyHash P (Str.ofString "__doc__"), key := Value.str (Str.ofString "__doc__") 166, val := Value.none } :: { hash := PyData.keyHash P (Str.ofString "__package__"), key := Value.str (Str.ofString "__package__") 167, val := Value.none } :: { hash := PyData.keyHash P (Str.ofString "__loader__"), key := Value.str (Str.ofString "__loader__") 168, val := Value.builtin "__main__.__loader__#opaque" } :: { hash := PyData.keyHash P (Str.ofString "__spec__"), key := Value.str (Str.ofString "__spec__") 169, val := Value.none } :: { hash := PyData.keyHash P (Str.ofString "__annotations__"), key := Value.str (Str.ofString "__annotations__") 170, val := Value.ref 6 } :: { hash := PyData.keyHash P (Str.ofString "__builtins__"), key := Value.str (Str.ofString "__builtins__") 171, val := Value.ref 4 } :: { hash := PyData.keyHash P (Str.ofString "__file__"), key := Value.str (Str.ofString "__file__") 173, val := Value.str (Str.ofString "/claim/cut.py") 172 } :: { hash := PyData.keyHash P (Str.ofString "__cached__"), key := Value.str (Str.ofString "__cached__") 174, val := Value.none } :: { hash := PyData.keyHash P (Str.ofString "E_BIT"), key := Value.str (Str.ofString "E_BIT") 190, val := Value.int 2 189 } :: { hash := PyData.keyHash P (Str.ofString "hello_of"), key := Value.str (Str.ofString "hello_of") 199, val := Value.ref 21 } :: { hash := PyData.keyHash P (Str.ofString "STATES"), key := Value.str (Str.ofString "STATES") 210, val := Value.ref 22 } :: { hash := PyData.keyHash P (Str.ofString "is_at_least"), key := Value.str (Str.ofString "is_at_least") 218, val := Value.ref 29 } :: { hash := PyData.keyHash P (Str.ofString "is_told"), key := Value.str (Str.ofString "is_told") 225, val := Value.ref 36 } :: { hash := PyData.keyHash P (Str.ofString "SEND_DELAY"), key := Value.str (Str.ofString "SEND_DELAY") 229, val := Value.int 1 228 } :: { hash := PyData.keyHash P (Str.ofString "MOST_NAMED"), key := Value.str (Str.ofString "MOST_NAMED") 231, val := Value.int 16367 230 } :: { hash := PyData.keyHash P (Str.ofString "new_iface"), key := Value.str (Str.ofString "new_iface") 240, val := Value.ref 43 } :: { hash := PyData.keyHash P (Str.ofString "hello_view"), key := Value.str (Str.ofString "hello_view") 248, val := Value.ref 50 } :: { hash := PyData.keyHash P (Str.ofString "own_hello"), key := Value.str (Str.ofString "own_hello") 254, val := Value.ref 56 } :: { hash := PyData.keyHash P (Str.ofString "MODULUS"), key := Value.str (Str.ofString "MODULUS") 258, val := Value.int 255 257 } :: { hash := PyData.keyHash P (Str.ofString "fletcher_pair"), key := Value.str (Str.ofString "fletcher_pair") 268, val := Value.ref 63 } :: { hash := PyData.keyHash P (Str.ofString "fletcher_sum"), key := Value.str (Str.ofString "fletcher_sum") 280, val := Value.ref 70 } :: { hash := PyData.keyHash P (Str.ofString "internet_sum"), key := Value.str (Str.ofString "internet_sum") 290, val := Value.ref 77 } :: { hash := PyData.keyHash P (Str.ofString "RouteError"), key := Value.str (Str.ofString "RouteError") 321, val := Value.ref 94 } :: { hash := PyData.keyHash P (Str.ofString "ConfigError"), key := Value.str (Str.ofString "ConfigError") 337, val := Value.ref 107 } :: { hash := PyData.keyHash P (Str.ofString "put_number"), key := Value.str (Str.ofString "put_number") 345, val := Value.ref 114 } :: { hash := PyData.keyHash P (Str.ofString "put_u8"), key := Value.str (Str.ofString "put_u8") 352, val := Value.ref 121 } :: { hash := PyData.keyHash P (Str.ofString "put_u16"), key := Value.str (Str.ofString "put_u16") 359, val := Value.ref 128 } :: { hash := PyData.keyHash P (Str.ofString "put_u24"), key := Value.str (Str.ofString "put_u24") 366, val := Value.ref 135 } :: { hash := PyData.keyHash P (Str.ofString "put_u32"), key := Value.str (Str.ofString "put_u32") 373, val := Value.ref 142 } :: { hash := PyData.keyHash P (Str.ofString "mask_of"), key := Value.str (Str.ofString "mask_of") 383, val := Value.ref 149 } :: { hash := PyData.keyHash P (Str.ofString "seq_octets_number"), key := Value.str (Str.ofString "seq_octets_number") 392, val := Value.ref 156 } :: { hash := PyData.keyHash P (Str.ofString "BITS"), key := Value.str (Str.ofString "BITS") 396, val := Value.int 32 395 } :: { hash := PyData.keyHash P (Str.ofString "HEAD_SIZE"), key := Value.str (Str.ofString "HEAD_SIZE") 398, val := Value.int 20 397 } :: { hash := PyData.keyHash P (Str.ofString "SUM_PLACE"), key := Value.str (Str.ofString "SUM_PLACE") 400, val := Value.int 14 399 } :: { hash := PyData.keyHash P (Str.ofString "AGE_SIZE"), key := Value.str (Str.ofString "AGE_SIZE") 402, val := Value.int 2 401 } :: { hash := PyData.keyHash P (Str.ofString "TYPE_TWO"), key := Value.str (Str.ofString "TYPE_TWO") 404, val := Value.int 128 403 } :: { hash := PyData.keyHash P (Str.ofString "put_link"), key := Value.str (Str.ofString "put_link") 415, val := Value.ref 163 } :: { hash := PyData.keyHash P (Str.ofString "put_body"), key := Value.str (Str.ofString "put_body") 421, val := Value.ref 168 } :: { hash := PyData.keyHash P (Str.ofString "put_head"), key := Value.str (Str.ofString "put_head") 438, val := Value.ref 175 } :: { hash := PyData.keyHash P (Str.ofString "total_of"), key := Value.str (Str.ofString "total_of") 446, val := Value.ref 182 } :: { hash := PyData.keyHash P (Str.ofString "put_lsa"), key := Value.str (Str.ofString "put_lsa") 455, val := Value.ref 189 } :: { hash := PyData.keyHash P (Str.ofString "VERSION"), key := Value.str (Str.ofString "VERSION") 459, val := Value.int 2 458 } :: { hash := PyData.keyHash P (Str.ofString "PACKET_HEAD"), key := Value.str (Str.ofString "PACKET_HEAD") 461, val := Value.int 24 460 } :: { hash := PyData.keyHash P (Str.ofString "SUM_AT"), key := Value.str (Str.ofString "SUM_AT") 463, val := Value.int 12 462 } :: { hash := PyData.keyHash P (Str.ofString "AUTH_AT"), key := Value.str (Str.ofString "AUTH_AT") 465, val := Value.int 16 464 } :: { hash := PyData.keyHash P (Str.ofString "AUTH_SIZE"), key := Value.str (Str.ofString "AUTH_SIZE") 467, val := Value.int 8 466 } :: { hash := PyData.keyHash P (Str.ofString "AUTH_NONE"), key := Value.str (Str.ofString "AUTH_NONE") 469, val := Value.int 0 468 } :: { hash := PyData.keyHash P (Str.ofString "AUTH_PLAIN"), key := Value.str (Str.ofString "AUTH_PLAIN") 471, val := Value.int 1 470 } :: { hash := PyData.keyHash P (Str.ofString "WORDS"), key := Value.str (Str.ofString "WORDS") 477, val := Value.ref 190 } :: { hash := PyData.keyHash P (Str.ofString "put_heads"), key := Value.str (Str.ofString "put_heads") 483, val := Value.ref 195 } :: { hash := PyData.keyHash P (Str.ofString "put_hello"), key := Value.str (Str.ofString "put_hello") 489, val := Value.ref 200 } :: { hash := PyData.keyHash P (Str.ofString "put_payload"), key := Value.str (Str.ofString "put_payload") 495, val := Value.ref 205 } :: { hash := PyData.keyHash P (Str.ofString "auth_octets"), key := Value.str (Str.ofString "auth_octets") 503, val := Value.ref 212 } :: { hash := PyData.keyHash P (Str.ofString "packet_sum"), key := Value.str (Str.ofString "packet_sum") 510, val := Value.ref 219 } :: { hash := PyData.keyHash P (Str.ofString "put_packet"), key := Value.str (Str.ofString "put_packet") 526, val := Value.ref 226 } :: { hash := PyData.keyHash P (Str.ofString "packet_of"), key := Value.str (Str.ofString "packet_of") 535, val := Value.ref 233 } :: { hash := PyData.keyHash P (Str.ofString "_law_draw"), key := Value.str (Str.ofString "_law_draw") 546, val := Value.ref 240 } :: { hash := PyData.keyHash P (Str.ofString "law"), key := Value.str (Str.ofString "law") 552, val := Value.ref 245 } :: [])) 59 }), (12, { cls := Value.none, data := Data.fields #[Value.int 3 0, Value.int 0 0, Value.ref 20, Value.int 8 0, Value.int 0 0, Value.ref 28, Value.int 10 0, Value.int 0 0, Value.ref 35, Value.int 15 0, Value.int 0 0, Value.ref 42, Value.int 21 0, Value.int 0 0, Value.ref 49, Value.int 26 0, Value.int 0 0, Value.ref 55, Value.int 33 0, Value.int 0 0, Value.ref 62, Value.int 39 0, Value.int 0 0, Value.ref 69, Value.int 48 0, Value.int 0 0, Value.ref 76, Value.int 55 0, Value.int 0 0, Value.ref 83, Value.int 60 0, Value.int 0 0, Value.ref 103, Value.int 63 0, Value.int 0 0, Value.ref 113, Value.int 67 0, Value.int 0 0, Value.ref 120, Value.int 69 0, Value.int 0 0, Value.ref 127, Value.int 71 0, Value.int 0 0, Value.ref 134, Value.int 73 0, Value.int 0 0, Value.ref 141, Value.int 76 0, Value.int 0 0, Value.ref 148, Value.int 79 0, Value.int 0 0, Value.ref 155, Value.int 87 0, Value.int 0 0, Value.ref 162, Value.int 90 0, Value.int 0 0, Value.ref 167, Value.int 103 0, Value.int 0 0, Value.ref 174, Value.int 107 0, Value.int 0 0, Value.ref 181, Value.int 110 0, Value.int 0 0, Value.ref 188, Value.int 122 0, Value.int 0 0, Value.ref 194, Value.int 124 0, Value.int 0 0, Value.ref 199, Value.int 128 0, Value.int 0 0, Value.ref 204, Value.int 140 0, Value.int 0 0, Value.ref 211, Value.int 143 0, Value.int 0 0, Value.ref 218, Value.int 145 0, Value.int 0 0, Value.ref 225, Value.int 152 0, Value.int 0 0, Value.ref 232, Value.int 155 0, Value.int 0 0, Value.ref 239, Value.int 161 0, Value.int 0 0, Value.ref 244] })] ++ (
  { cls := Value.type "tuple", data := Data.seq #[Value.str (Str.ofString "hello") 472, Value.str (Str.ofString "dd") 473, Value.str (Str.ofString "request") 474, Value.str (Str.ofString "update") 475, Value.str (Str.ofString "ack") 476] } ::
  { cls := Value.type "tuple", data := Data.seq #[] } ::
  { cls := Value.none, data := Data.fields #[] } ::
  { cls := Value.none, data := Data.func { name := Str.ofString "put_heads", qualname := Str.ofString "put_heads", params := fnParams (stmtAt rowBody 51), body := fnBody (stmtAt rowBody 51), scope := fnScope (stmtAt rowBody 51), globals := 0, closure := [], defaults := Value.none, kwdefaults := Value.none } } ::
  { cls := Value.type "code", data := Data.fields #[Value.str (Str.ofString "put_heads") 478, Value.str (Str.ofString "put_heads") 479, Value.str (Str.ofString "/claim/cut.py") 480, Value.int 122 0, Value.int 1 0, Value.int 0 0, Value.int 0 0, Value.int 3 0, Value.ref 191, Value.bool true, Value.int 181 0, Value.ref 192, Value.none, Value.none, Value.none, Value.ref 193, Value.int 481 0, Value.int 122 0, Value.str (Str.ofString "/claim/cut.py") 482] } ::
  { cls := Value.type "function", data := Data.func { name := Str.ofString "put_heads", qualname := Str.ofString "put_heads", params := fnParams (stmtAt rowBody 51), body := fnBody (stmtAt rowBody 51), scope := fnScope (stmtAt rowBody 51), globals := 3, closure := [], defaults := Value.none, kwdefaults := Value.none, pyModule := Value.str (Str.ofString "routeloom.ospfform") 456, code := Value.ref 194 } } ::
  { cls := Value.type "tuple", data := Data.seq #[] } ::
  { cls := Value.none, data := Data.fields #[] } ::
  { cls := Value.none, data := Data.func { name := Str.ofString "put_hello", qualname := Str.ofString "put_hello", params := fnParams (stmtAt rowBody 52), body := fnBody (stmtAt rowBody 52), scope := fnScope (stmtAt rowBody 52), globals := 0, closure := [], defaults := Value.none, kwdefaults := Value.none } } ::
  { cls := Value.type "code", data := Data.fields #[Value.str (Str.ofString "put_hello") 484, Value.str (Str.ofString "put_hello") 485, Value.str (Str.ofString "/claim/cut.py") 486, Value.int 124 0, Value.int 1 0, Value.int 0 0, Value.int 0 0, Value.int 3 0, Value.ref 196, Value.bool true, Value.int 181 0, Value.ref 197, Value.none, Value.none, Value.none, Value.ref 198, Value.int 487 0, Value.int 124 0, Value.str (Str.ofString "/claim/cut.py") 488] } ::
  { cls := Value.type "function", data := Data.func { name := Str.ofString "put_hello", qualname := Str.ofString "put_hello", params := fnParams (stmtAt rowBody 52), body := fnBody (stmtAt rowBody 52), scope := fnScope (stmtAt rowBody 52), globals := 3, closure := [], defaults := Value.none, kwdefaults := Value.none, pyModule := Value.str (Str.ofString "routeloom.ospfform") 456, code := Value.ref 199 } } ::
  { cls := Value.type "tuple", data := Data.seq #[] } ::
  { cls := Value.none, data := Data.fields #[] } ::
  { cls := Value.none, data := Data.func { name := Str.ofString "put_payload", qualname := Str.ofString "put_payload", params := fnParams (stmtAt rowBody 53), body := fnBody (stmtAt rowBody 53), scope := fnScope (stmtAt rowBody 53), globals := 0, closure := [], defaults := Value.none, kwdefaults := Value.none } } ::
  { cls := Value.type "code", data := Data.fields #[Value.str (Str.ofString "put_payload") 490, Value.str (Str.ofString "put_payload") 491, Value.str (Str.ofString "/claim/cut.py") 492, Value.int 128 0, Value.int 1 0, Value.int 0 0, Value.int 0 0, Value.int 3 0, Value.ref 201, Value.bool true, Value.int 181 0, Value.ref 202, Value.none, Value.none, Value.none, Value.ref 203, Value.int 493 0, Value.int 128 0, Value.str (Str.ofString "/claim/cut.py") 494] } ::
  { cls := Value.type "function", data := Data.func { name := Str.ofString "put_payload", qualname := Str.ofString "put_payload", params := fnParams (stmtAt rowBody 53), body := fnBody (stmtAt rowBody 53), scope := fnScope (stmtAt rowBody 53), globals := 3, closure := [], defaults := Value.none, kwdefaults := Value.none, pyModule := Value.str (Str.ofString "routeloom.ospfform") 456, code := Value.ref 204 } } ::
  { cls := Value.type "tuple", data := Data.seq #[] } ::
  { cls := Value.none, data := Data.fields #[] } ::
  { cls := Value.type "tuple", data := Data.seq #[Value.str (Str.ofString "password") 499, Value.str (Str.ofString "told") 500] } ::
  { cls := Value.type "tuple", data := Data.seq #[] } ::
  { cls := Value.none, data := Data.func { name := Str.ofString "auth_octets", qualname := Str.ofString "auth_octets", params := fnParams (stmtAt rowBody 54), body := fnBody (stmtAt rowBody 54), scope := fnScope (stmtAt rowBody 54), globals := 0, closure := [], defaults := Value.none, kwdefaults := Value.none } } ::
  { cls := Value.type "code", data := Data.fields #[Value.str (Str.ofString "auth_octets") 496, Value.str (Str.ofString "auth_octets") 497, Value.str (Str.ofString "/claim/cut.py") 498, Value.int 140 0, Value.int 1 0, Value.int 0 0, Value.int 0 0, Value.int 3 0, Value.ref 206, Value.bool true, Value.int 181 0, Value.ref 207, Value.none, Value.ref 208, Value.ref 209, Value.ref 210, Value.int 501 0, Value.int 140 0, Value.str (Str.ofString "/claim/cut.py") 502] } ::
  { cls := Value.type "function", data := Data.func { name := Str.ofString "auth_octets", qualname := Str.ofString "auth_octets", params := fnParams (stmtAt rowBody 54), body := fnBody (stmtAt rowBody 54), scope := fnScope (stmtAt rowBody 54), globals := 3, closure := [], defaults := Value.none, kwdefaults := Value.none, pyModule := Value.str (Str.ofString "routeloom.ospfform") 456, code := Value.ref 211 } } ::
  { cls := Value.type "tuple", data := Data.seq #[] } ::
  { cls := Value.none, data := Data.fields #[] } ::
  { cls := Value.type "tuple", data := Data.seq #[Value.str (Str.ofString "octets") 507] } ::
  { cls := Value.type "tuple", data := Data.seq #[] } ::
  { cls := Value.none, data := Data.func { name := Str.ofString "packet_sum", qualname := Str.ofString "packet_sum", params := fnParams (stmtAt rowBody 55), body := fnBody (stmtAt rowBody 55), scope := fnScope (stmtAt rowBody 55), globals := 0, closure := [], defaults := Value.none, kwdefaults := Value.none } } ::
  { cls := Value.type "code", data := Data.fields #[Value.str (Str.ofString "packet_sum") 504, Value.str (Str.ofString "packet_sum") 505, Value.str (Str.ofString "/claim/cut.py") 506, Value.int 143 0, Value.int 1 0, Value.int 0 0, Value.int 0 0, Value.int 3 0, Value.ref 213, Value.bool true, Value.int 181 0, Value.ref 214, Value.none, Value.ref 215, Value.ref 216, Value.ref 217, Value.int 508 0, Value.int 143 0, Value.str (Str.ofString "/claim/cut.py") 509] } ::
  { cls := Value.type "function", data := Data.func { name := Str.ofString "packet_sum", qualname := Str.ofString "packet_sum", params := fnParams (stmtAt rowBody 55), body := fnBody (stmtAt rowBody 55), scope := fnScope (stmtAt rowBody 55), globals := 3, closure := [], defaults := Value.none, kwdefaults := Value.none, pyModule := Value.str (Str.ofString "routeloom.ospfform") 456, code := Value.ref 218 } } ::
  { cls := Value.type "tuple", data := Data.seq #[] } ::
  { cls := Value.none, data := Data.fields #[] } ::
  { cls := Value.type "tuple", data := Data.seq #[Value.str (Str.ofString "packet") 514, Value.str (Str.ofString "password") 515, Value.str (Str.ofString "number") 516, Value.str (Str.ofString "router") 517, Value.str (Str.ofString "area") 518, Value.str (Str.ofString "payload") 519, Value.str (Str.ofString "body") 520, Value.str (Str.ofString "front") 521, Value.str (Str.ofString "sort") 522, Value.str (Str.ofString "total") 523] } ::
  { cls := Value.type "tuple", data := Data.seq #[] } ::
  { cls := Value.none, data := Data.func { name := Str.ofString "put_packet", qualname := Str.ofString "put_packet", params := fnParams (stmtAt rowBody 56), body := fnBody (stmtAt rowBody 56), scope := fnScope (stmtAt rowBody 56), globals := 0, closure := [], defaults := Value.none, kwdefaults := Value.none } } ::
  { cls := Value.type "code", data := Data.fields #[Value.str (Str.ofString "put_packet") 511, Value.str (Str.ofString "put_packet") 512, Value.str (Str.ofString "/claim/cut.py") 513, Value.int 145 0, Value.int 2 0, Value.int 0 0, Value.int 0 0, Value.int 3 0, Value.ref 220, Value.bool true, Value.int 181 0, Value.ref 221, Value.none, Value.ref 222, Value.ref 223, Value.ref 224, Value.int 524 0, Value.int 145 0, Value.str (Str.ofString "/claim/cut.py") 525] } ::
  { cls := Value.type "function", data := Data.func { name := Str.ofString "put_packet", qualname := Str.ofString "put_packet", params := fnParams (stmtAt rowBody 56), body := fnBody (stmtAt rowBody 56), scope := fnScope (stmtAt rowBody 56), globals := 3, closure := [], defaults := Value.none, kwdefaults := Value.none, pyModule := Value.str (Str.ofString "routeloom.ospfform") 456, code := Value.ref 225 } } ::
  { cls := Value.type "tuple", data := Data.seq #[] } ::
  { cls := Value.none, data := Data.fields #[] } ::
  { cls := Value.type "tuple", data := Data.seq #[Value.str (Str.ofString "router") 530, Value.str (Str.ofString "area") 531, Value.str (Str.ofString "payload") 532] } ::
  { cls := Value.type "tuple", data := Data.seq #[] } ::
  { cls := Value.none, data := Data.func { name := Str.ofString "packet_of", qualname := Str.ofString "packet_of", params := fnParams (stmtAt rowBody 57), body := fnBody (stmtAt rowBody 57), scope := fnScope (stmtAt rowBody 57), globals := 0, closure := [], defaults := Value.none, kwdefaults := Value.none } } ::
  { cls := Value.type "code", data := Data.fields #[Value.str (Str.ofString "packet_of") 527, Value.str (Str.ofString "packet_of") 528, Value.str (Str.ofString "/claim/cut.py") 529, Value.int 152 0, Value.int 3 0, Value.int 0 0, Value.int 0 0, Value.int 3 0, Value.ref 227, Value.bool true, Value.int 181 0, Value.ref 228, Value.none, Value.ref 229, Value.ref 230, Value.ref 231, Value.int 533 0, Value.int 152 0, Value.str (Str.ofString "/claim/cut.py") 534] } ::
  { cls := Value.type "function", data := Data.func { name := Str.ofString "packet_of", qualname := Str.ofString "packet_of", params := fnParams (stmtAt rowBody 57), body := fnBody (stmtAt rowBody 57), scope := fnScope (stmtAt rowBody 57), globals := 3, closure := [], defaults := Value.none, kwdefaults := Value.none, pyModule := Value.str (Str.ofString "routeloom.ospfform") 456, code := Value.ref 232 } } ::
  { cls := Value.type "tuple", data := Data.seq #[] } ::
  { cls := Value.none, data := Data.fields #[] } ::
  { cls := Value.type "tuple", data := Data.seq #[Value.str (Str.ofString "pool") 541, Value.str (Str.ofString "many") 542, Value.str (Str.ofString "spot") 543] } ::
  { cls := Value.type "tuple", data := Data.seq #[] } ::
  { cls := Value.none, data := Data.func { name := Str.ofString "_law_draw", qualname := Str.ofString "_law_draw", params := fnParams (stmtAt rowBody 59), body := fnBody (stmtAt rowBody 59), scope := fnScope (stmtAt rowBody 59), globals := 0, closure := [], defaults := Value.none, kwdefaults := Value.none } } ::
  { cls := Value.type "code", data := Data.fields #[Value.str (Str.ofString "_law_draw") 538, Value.str (Str.ofString "_law_draw") 539, Value.str (Str.ofString "/claim/cut.py") 540, Value.int 155 0, Value.int 2 0, Value.int 0 0, Value.int 0 0, Value.int 3 0, Value.ref 234, Value.bool true, Value.int 181 0, Value.ref 235, Value.none, Value.ref 236, Value.ref 237, Value.ref 238, Value.int 544 0, Value.int 155 0, Value.str (Str.ofString "/claim/cut.py") 545] } ::
  { cls := Value.type "function", data := Data.func { name := Str.ofString "_law_draw", qualname := Str.ofString "_law_draw", params := fnParams (stmtAt rowBody 59), body := fnBody (stmtAt rowBody 59), scope := fnScope (stmtAt rowBody 59), globals := 3, closure := [], defaults := Value.none, kwdefaults := Value.none, pyModule := Value.str (Str.ofString "law_rh0209_01") 536, code := Value.ref 239 } } ::
  { cls := Value.type "tuple", data := Data.seq #[] } ::
  { cls := Value.none, data := Data.fields #[] } ::
  { cls := Value.none, data := Data.func { name := Str.ofString "law", qualname := Str.ofString "law", params := fnParams (stmtAt rowBody 60), body := fnBody (stmtAt rowBody 60), scope := fnScope (stmtAt rowBody 60), globals := 0, closure := [], defaults := Value.none, kwdefaults := Value.none } } ::
  { cls := Value.type "code", data := Data.fields #[Value.str (Str.ofString "law") 547, Value.str (Str.ofString "law") 548, Value.str (Str.ofString "/claim/cut.py") 549, Value.int 161 0, Value.int 1 0, Value.int 0 0, Value.int 0 0, Value.int 3 0, Value.ref 241, Value.bool true, Value.int 181 0, Value.ref 242, Value.none, Value.none, Value.none, Value.ref 243, Value.int 550 0, Value.int 161 0, Value.str (Str.ofString "/claim/cut.py") 551] } ::
  { cls := Value.type "function", data := Data.func { name := Str.ofString "law", qualname := Str.ofString "law", params := fnParams (stmtAt rowBody 60), body := fnBody (stmtAt rowBody 60), scope := fnScope (stmtAt rowBody 60), globals := 3, closure := [], defaults := Value.none, kwdefaults := Value.none, pyModule := Value.str (Str.ofString "law_rh0209_01") 536, code := Value.ref 244 } } :: [])
noncomputable abbrev cutB (P : Params) (os : OsState) : SharedT := stateOf [boot_o_0 P, boot_o_1 P, boot_o_2 P, boot_o_3 P, boot_o_4 P, boot_o_5 P, boot_o_6 P, boot_o_7 P, boot_o_8 P, boot_o_9 P, boot_o_10 P] 11 181 os
abbrev lawProg : Program := PySem.Challenge.rw_rh0209_01.row.prog
abbrev topEnv : Env := { scope := lawProg.main.scope, locals := mainNs, globals := mainNs, cells := [], code := Value.ref 13, frame := some 14 }
abbrev topCode : Code := .body (behindTheImports lawProg) topEnv
abbrev topB : List Frame := [topFrame ⟨0, 0, 0, 0⟩]
theorem cut_open : ∀ w : World, (fencedOpening treeTable lawProg w 3362).map (fun s => (s.heap, s.gens, s.drawn, s.toks)) = some (boot_heap w.params, Array.mk [], boot_drawn, boot_toks) :=
  boot_open (by kernel_rfl) (by rfl) (fun s => by kernel_rfl)
theorem cut_boot : ∀ P os, (cutB P os).abs = ⟨boot_heap P, Array.mk [], boot_drawn, boot_toks, os⟩ := by intro P os; kernel_rfl
theorem cut_size : ∀ w : World, ((boot_heap w.params).isNs mainGlobals && (Array.mk [] : Array GenState).size == 0, (boot_heap w.params).objs.size, (boot_heap w.params).nsMap mainGlobals "__annotations__") = (true, 11, some (.ref 6)) := by intro w; kernel_rfl
theorem cut_pre : ∀ (w : World) (os : OsState), topGoT treeTable lawProg w 11 (some (.ref 6)) 12 (cutB w.params os) (topStub lawProg) = some (stateOf (cutA w.params) 15 187 os, ⟨denote treeTable topCode, topCode, ⟨0, 0, 0, 0⟩, topB⟩) := by intro w os; kernel_rfl
theorem cut_block : ∀ (w : World) (os : OsState), segRunT treeTable lawProg w 11 (some (.ref 6)) 1 1 (stateOf (cutA w.params) 15 187 os) (blockOf (behindTheImports lawProg) topEnv topCode ⟨0, 0, 0, 0⟩ topB) = some (.next, stateOf (cutA w.params) 15 187 os, topCode, ⟨0, 0, 0, 0⟩) := by intro w os; kernel_rfl
theorem cut_0 : ∀ (w : World) (os : OsState), segRunT treeTable lawProg w 11 (some (.ref 6)) 1 378 (stateOf (cutA w.params) 15 187 os) (piecesOf (((behindTheImports lawProg).drop 0).take 19) topEnv topCode ⟨0, 0, 0, 0⟩ topB) = some (.next, stateOf (cutC0 w.params) 78 293 os, topCode, ⟨54, 0, 54, 8⟩) := by intro w os; kernel_rfl
theorem cut_1 : ∀ (w : World) (os : OsState), segRunT treeTable lawProg w 11 (some (.ref 6)) 1 229 (stateOf (cutC0 w.params) 78 293 os) (piecesOf (((behindTheImports lawProg).drop 19).take 1) topEnv topCode ⟨54, 0, 54, 8⟩ topB) = some (.next, stateOf (cutC1 w.params) 98 322 os, topCode, ⟨55, 0, 59, 24⟩) := by intro w os; kernel_rfl
theorem cut_2 : ∀ (w : World) (os : OsState), segRunT treeTable lawProg w 11 (some (.ref 6)) 1 214 (stateOf (cutC1 w.params) 98 322 os) (piecesOf (((behindTheImports lawProg).drop 20).take 1) topEnv topCode ⟨55, 0, 59, 24⟩ topB) = some (.next, stateOf (cutC2 w.params) 110 338 os, topCode, ⟨60, 0, 61, 8⟩) := by intro w os; kernel_rfl
theorem cut_3 : ∀ (w : World) (os : OsState), segRunT treeTable lawProg w 11 (some (.ref 6)) 1 442 (stateOf (cutC2 w.params) 110 338 os) (piecesOf (((behindTheImports lawProg).drop 21).take 21) topEnv topCode ⟨60, 0, 61, 8⟩ topB) = some (.next, stateOf (cutC3 w.params) 190 456 os, topCode, ⟨110, 0, 112, 103⟩) := by intro w os; kernel_rfl
theorem cut_4 : ∀ (w : World) (os : OsState), segRunT treeTable lawProg w 11 (some (.ref 6)) 1 360 (stateOf (cutC3 w.params) 190 456 os) (piecesOf (((behindTheImports lawProg).drop 42).take 19) topEnv topCode ⟨110, 0, 112, 103⟩ topB) = some (.next, stateOf (cutC4 w.params) 246 553 os, topCode, ⟨161, 0, 180, 79⟩) := by intro w os; kernel_rfl
theorem cut_chain : ∀ (w : World) (os : OsState) (r : Shared) (n : Nat), topRun treeTable lawProg w 11 (some (.ref 6)) n (stateOf (cutC4 w.params) 246 553 os).abs (restOf ((behindTheImports lawProg).drop 61) topEnv topCode ⟨161, 0, 180, 79⟩ topB) = some r →
    topRun treeTable lawProg w 11 (some (.ref 6)) (1623 + n) (stateOf (cutA w.params) 15 187 os).abs (restOf ((behindTheImports lawProg).drop 0) topEnv topCode ⟨0, 0, 0, 0⟩ topB) = some r := fun w os r n h => by
  rw [show 1623 + n = 378 + (229 + (214 + (442 + (360 + n)))) by omega]
  exact cut_step (cut_0 w os) (by decide) (cut_step (cut_1 w os) (by decide) (cut_step (cut_2 w os) (by decide) (cut_step (cut_3 w os) (by decide) (cut_step (cut_4 w os) (by decide) h))))
theorem cut_looks : ∀ (w : World) (os : OsState), (topRunT treeTable lawProg w 11 (some (.ref 6)) 2 (stateOf (cutC4 w.params) 246 553 os) (restOf ((behindTheImports lawProg).drop 61) topEnv topCode ⟨161, 0, 180, 79⟩ topB)).map (fun s =>
    (staticsOk (importedModules lawProg.main.body) (boot_heap w.params) s.abs.heap && namesBound lawProg s.abs.heap && gensDone s.abs && laidKept (boot_heap w.params) s.abs.heap, openSeen hd.view_39 [PySem.Str.ofString "own_hello"] (importedModules lawProg.main.body) (fun s => xlAt hd.view_39 [] s && recOk (RowW.records PySem.Challenge.rw_rh0209_01.row.toRowW) s) true s.abs, Hook.obs hd.hook s.abs)) = some (true, openGood hd.view_39 [PySem.Str.ofString "own_hello"], Hook.val hd.hook w) := by intro w os; kernel_rfl
theorem cut_left : LeftO PySem.Challenge.rw_rh0209_01.row.prog hd.view_39 [PySem.Str.ofString "own_hello"] (fun s => xlAt hd.view_39 [] s && recOk (RowW.records PySem.Challenge.rw_rh0209_01.row.toRowW) s) (Hook.obs hd.hook) (Hook.val hd.hook) 3362 :=
  left_of_cut (p := lawProg) (B := cutB) (A := fun P os => stateOf (cutA P) 15 187 os) (M := fun P os => stateOf (cutC4 P) 246 553 os) (n0 := 12) (n1 := 1) (n2 := 1623) (n3 := 2) (k := 61) (m0 := 11) (ann := some (.ref 6)) (env := topEnv) (c := topCode) (pos0 := ⟨0, 0, 0, 0⟩) (pos1 := ⟨0, 0, 0, 0⟩) (pos2 := ⟨161, 0, 180, 79⟩) (qp := ⟨0, 0, 0, 0⟩) cut_open cut_boot cut_size cut_pre cut_block cut_chain cut_looks (by rfl)
/-- the law holds if the walk over the view from the heap's part comes through -/
theorem hd {d : DefRec} {kwd : List (PySem.Str × PySem.Expr)} (h1 : defOf hd.view_39 (PySem.Str.ofString "law") = some (d, kwd))
    (h2 : PySem.Challenge.rw_rh0209_01.row.prog.theDef (PySem.Str.ofString "law") = some (d.params, d.body, d.scope)) (h3 : kwWritten? d.params.kwonlyargs d.params.kw_defaults = some kwd)
    (call : WalkO hd.view_39 [PySem.Str.ofString "own_hello"] (XL hd.view_39 []) (Hook.says hd.hook) PySem.Challenge.rw_rh0209_01.row.toRowW d kwd fun f vs => PySem.call f vs) : PySem.Challenge.rw_rh0209_01.Holds := by
  w_on
  o_law
  refine PySem.W.holds_open (q := hd.view_39) (loose := [PySem.Str.ofString "own_hello"]) (Xt := fun s => xlAt hd.view_39 [] s && recOk (RowW.records PySem.Challenge.rw_rh0209_01.row.toRowW) s) (XP := XL hd.view_39 []) (Yf := Hook.obs hd.hook) (Ya := Hook.val hd.hook) (YP := Hook.says hd.hook) (N := 3362) ?hl (Hook.of hd.hook) (Hook.keeps hd.hook) (fun s e => xl_of s (Bool.and_eq_true_iff.mp e).1) XL.keeps h1 h2 h3 (fun s e => recFacts_of (Bool.and_eq_true_iff.mp e).2) (by rfl) (by first | assumption | decide +kernel) (by decide +kernel) ⟨rfl, rfl, rfl, rfl, rfl, by decide +kernel⟩ ?hw call
  case hw => w_witness2
  case hl => exact cut_left
end Mine
end
section
open PySem PySem.W PyProof.Rows
set_option maxRecDepth 100000
namespace Mine
open Builtin
theorem join_entry : entryFor table "bytes.join" = some Builtin.«bytes.join» := entryFor_of_tree (by kernel_rfl)
theorem join_args (a b : Value) : argsOk "bytes.join" ⟨[a, b], []⟩ := by unfold argsOk; kernel_rfl
theorem join_slot : Slot "bytes" "join" "bytes.join" :=
  .of (owner := "bytes") (n := "join") (by rw [typeLookup_type, builtinLookup_eq_fast]; kernel_rfl) (by decide +kernel) (by decide +kernel) (by decide +kernel)
    (by first | exact .inl (by decide +kernel) | exact .inr (by decide +kernel)) (by rw [isSubtype_type]; kernel_rfl)
theorem join_type : typeOf (.builtin "bytes.join") = pure (.type "method_descriptor") := by show builtinType _ = _; rw [builtinType_eq_fast]; kernel_rfl
theorem join_method {M : Model} {A : Around} {E : Value → Shared → Prop} {s : Shared} {t : Tok} {b : Array UInt8} {pl : Sem Bool} {Q : Value × List Value → Shared → Prop} (h : Q (.builtin "bytes.join", [.bytes b t]) s) : wpAny M A (getMethod (.bytes b t) "join" pl) Q E s := by
  with_reducible exact KBd.method_of (.bytes b t) (typeIs_bytes _ _ _) join_slot join_type KBd.noRef h
theorem take_eq {b : Array UInt8} {t : Tok} : Bytes.takeBufferQuiet? "bytes.join" (.bytes b t) 0 = pure (some (b, none)) := by
  unfold Bytes.takeBufferQuiet? Bytes.takeBuffer?
  have e : ((0 : Int) == Bytes.fullReadOnly) = false := by decide
  rw [KBy.special_eq KBy.look_buffer, KBy.own_buffer, e, KBy.buffer_eq]
  kernel_rfl

def BsAre (vs : List Value) (k : Nat) : Prop := ∀ v ∈ vs, ∃ b t, v = .bytes b t ∧ b.size = k

theorem BsAre.bs {vs : List Value} {k : Nat} (h : BsAre vs k) {i : Nat} {v : Value} (e : vs[i]? = some v) : ∃ b t, v = .bytes b t ∧ b.size = k := h v (List.mem_of_getElem? e)
theorem joined_nil (parts : List (Array UInt8)) : Bytes.joined #[] parts = parts.foldl (· ++ ·) #[] := by
  unfold Bytes.joined
  have : ∀ (l : List (Array UInt8)) (n : Nat) (a : Array UInt8), (l.zipIdx n).foldl (fun out (p : Array UInt8 × Nat) => (if p.2 > 0 then out ++ #[] else out) ++ p.1) a = l.foldl (· ++ ·) a := by
    intro l
    induction l with
    | nil => intro n a; rfl
    | cons x r ih => intro n a; rw [List.zipIdx_cons, List.foldl_cons, List.foldl_cons, ih]; congr 1; simp
  exact this parts 0 #[]
theorem joined_size {k : Nat} : ∀ (l : List (Array UInt8)) (a : Array UInt8), (∀ b ∈ l, b.size = k) → (l.foldl (· ++ ·) a).size = a.size + k * l.length
  | [], a, _ => by simp
  | x :: r, a, h => by
    rw [List.foldl_cons, joined_size r (a ++ x) fun b hb => h b (List.mem_cons_of_mem _ hb), Array.size_append, h x List.mem_cons_self, List.length_cons, Nat.mul_succ]
    omega
section
variable {prog : Program} {w : World} {A : Around} {E : Value → Shared → Prop} {s : Shared}
theorem letGo_byvalue {keep : List Value} : ∀ (taken : List (Value × Option Value)) {Q : Unit → Shared → Prop}, (∀ p ∈ taken, p.2 = none) → Q () s → wpAny (model prog w) A (Bytes.joinLetGo taken keep) Q E s
  | [], _, _, h => wpAny_pure h
  | (x, u) :: rest, Q, hn, h => by
    have e : u = none := hn (x, u) List.mem_cons_self
    subst e
    unfold Bytes.joinLetGo
    refine wpAny_bind (wpAny_letGo ?_)
    exact letGo_byvalue rest (fun p hp => hn p (List.mem_cons_of_mem _ hp)) h

theorem join_match {xs : List Value} (hx : ¬ xs.length = 1) {f : Value → Sem PySem.Fin} {g : Array Value → Sem PySem.Fin} : Builtin.Bytes.joinM.match_1 (fun _ => Sem PySem.Fin) xs.toArray f g = g xs.toArray := by
  match xs, hx with
  | [], _ => rfl
  | [x], h => exact absurd rfl h
  | x :: y :: r, _ => rfl
theorem join_meets {l : Addr} {vs : List Value} {k : Nat} {t : Tok} (hv : BsAre vs k) (hz : k * vs.length ≤ 16777216) :
    Meets (Builtin.«bytes.join» ⟨[.bytes #[] t, .ref l], []⟩) (fun _ R s => s.heap.IsList l vs.toArray ∧ ∀ b t' k', b.size = k * vs.length → R (.ok (.ret (.bytes b t'))) { s with toks := k' }) := by
  refine .of_wp fun prog w A R s hS => ?_
  obtain ⟨hl, h⟩ := hS
  obtain ⟨ol, hol, hoc, nl, hod⟩ := id hl
  unfold Builtin.«bytes.join» Bytes.joinM
  refine wpAny_bind (wpAny_of_eq (a := (.bytes #[] t, .ref l)) (by kernel_rfl) ?_)
  refine KFB.if_so rfl ?_
  refine wpAny_bind ?_
  unfold Bytes.joinItems
  refine wpAny_bind (wpAny_typeOf hl.typeIs ?_)
  refine KFB.if_so (by decide +kernel) ?_
  refine wpAny_pure ?_
  refine wpAny_bind (wpAny_seqItems hol hod ?_)
  refine KFB.if_so rfl ?_
  by_cases hone : vs.length = 1
  · obtain ⟨x, rfl⟩ := List.length_eq_one_iff.mp hone
    obtain ⟨b, tb, rfl, hb⟩ := hv x (List.mem_singleton.mpr rfl)
    refine wpAny_bind (wpAny_typeOf (typeIs_bytes _ _ _) ?_)
    refine KFB.if_so (by decide +kernel) ?_
    refine wpAny_bind (wpAny_rule ?_)
    exact wpAny_pure ⟨_, rfl, h b tb s.toks (by rw [hb]; simp)⟩
  · rw [join_match hone]
    dsimp only
    rw [Std.Legacy.Range.forIn_eq_forIn_range']
    refine wpAny_bind ?_
    refine wpAny_forIn_list _ (fun rest (r : Array (Array UInt8) × List (Value × Option Value)) s' => s' = s ∧ ∃ i, rest = List.range' i (vs.length - i) ∧ i ≤ vs.length ∧ r.1.size = i ∧ (∀ b ∈ r.1.toList, b.size = k) ∧ (∀ p ∈ r.2, p.2 = none ∧ p.1.onHeap = false)) _ ?_ ?_ _ _ ⟨rfl, 0, ?_, Nat.zero_le _, rfl, fun b hb => by simp at hb, fun p hp => by simp at hp⟩
    · rintro x rest ⟨ps, tk⟩ s' ⟨rfl, i, hr, hi, hsz, hb, ht⟩
      have hlt : i < vs.length := by
        cases hq : vs.length - i with
        | zero => rw [hq] at hr; cases hr
        | succ m => omega
      obtain ⟨m, hm⟩ : ∃ m, vs.length - i = m + 1 := ⟨vs.length - i - 1, by omega⟩
      rw [hm, List.range'_succ] at hr
      obtain ⟨rfl, rfl⟩ := List.cons.inj hr
      obtain ⟨b, tb, hbv, hbs⟩ := hv.bs (List.getElem?_eq_getElem hlt)
      refine wpAny_bind (wpAny_seqItems hol hod ?_)
      dsimp only
      refine KFB.if_not ?_ ?_
      · show (false || _) = false
        rw [Bool.false_or, List.any_eq_false]
        intro p hp
        rw [(ht p hp).2]; exact Bool.false_ne_true
      have hx : vs.toArray.getD x Value.none = .bytes b tb := by
        rw [Array.getD_eq_getD_getElem?]; simp [List.getElem?_eq_getElem hlt, hbv]
      rw [hx]
      refine wpAny_bind (wpAny_holding (wpAny_of_eq take_eq ?_))
      dsimp only
      refine wpAny_bind (wpAny_seqItems hol hod ?_)
      dsimp only
      refine KFB.if_not (by simp) ?_
      refine wpAny_pure ⟨rfl, x + 1, ?_, hlt, ?_, ?_, ?_⟩
      · congr 1; omega
      · dsimp only at hsz ⊢; rw [Array.size_push, hsz]
      · intro c hc
        rw [Array.toList_push] at hc
        rcases List.mem_append.mp hc with hc | hc
        · exact hb c hc
        · rw [List.mem_singleton.mp hc]; exact hbs
      · intro p hp
        rcases List.mem_append.mp hp with hp | hp
        · exact ht p hp
        · rw [List.mem_singleton.mp hp]; exact ⟨rfl, rfl⟩
    · rintro ⟨ps, tk⟩ s' ⟨rfl, i, hr, hi, hsz, hb, ht⟩
      have hin : i = vs.length := by
        cases hq : vs.length - i with
        | zero => omega
        | succ m => rw [hq, List.range'_succ] at hr; cases hr
      subst hin
      dsimp only at hsz hb ht ⊢
      have hsize : (Bytes.joined #[] ps.toList).size = k * vs.length := by
        rw [joined_nil, joined_size _ _ hb, Array.length_toList, hsz]; simp
      refine wpAny_bind (wpAny_of_eq (a := #[]) rfl ?_)
      refine KFB.if_not ?_ ?_
      · refine KBy.tooLong_not ?_
        have e : ∀ (l : List (Array UInt8)) (n : Nat), (∀ b ∈ l, b.size = k) → l.foldl (fun x1 x2 => x1 + x2.size) n = n + k * l.length := by
          intro l
          induction l with
          | nil => intro n _; simp
          | cons x r ih => intro n hn; rw [List.foldl_cons, ih _ fun b hb => hn b (List.mem_cons_of_mem _ hb), hn x List.mem_cons_self, List.length_cons, Nat.mul_succ]; omega
        rw [← Array.foldl_toList, e _ _ hb, Array.length_toList, hsz]
        simp only [List.size_toArray, List.length_nil, Nat.zero_mul, Nat.zero_add]
        exact hz
      · refine wpAny_bind (wpAny_mkBytes ?_ (by rw [hsize, sizeLine_eq]; exact hz))
        refine wpAny_bind (wpAny_holding (wpAny_point ?_))
        refine wpAny_bind (letGo_byvalue _ (fun p hp => (ht p hp).1) ?_)
        exact wpAny_pure ⟨_, rfl, h _ _ _ hsize⟩
    · simp
theorem join_call {l : Addr} {vs : List Value} {k : Nat} {t : Tok} {Q : Value → Shared → Prop} (hl : s.heap.IsList l vs.toArray) (hv : BsAre vs k) (hz : k * vs.length ≤ 16777216)
    (h : ∀ b t' k', Array.size b = k * vs.length → Q (.bytes b t') { s with toks := k' }) : wpAny (model prog w) A (call (.builtin "bytes.join") [.bytes #[] t, .ref l]) Q E s :=
  call_meets join_slot (typeIs_bytes _ _ _) join_entry (join_args _ _) (join_meets hv hz) ⟨hl, h⟩
end
end Mine
end
section
open PySem PySem.W PyProof.Rows
set_option maxRecDepth 100000
namespace Mine
open Builtin
section
variable {prog : Program} {w : World} {A : Around} {E : Value → Shared → Prop} {s : Shared} {b : Array UInt8} {t : Tok}
theorem nextOf_item {it : Addr} {i : Nat} {c : UInt8} {Q : Value → Shared → Prop} (hit : KBw.IsBytesIter s.heap it b t i) (hx : b[i]? = some c)
    (hQ : ∀ h', KBw.IsBytesIter h' it b t (i + 1) → Heap.SameBut it s.heap h' → Q (.int (c.toNat : Int) s.toks) { s with heap := h', toks := s.toks + 1 }) :
    wpAny (model prog w) A (SmallTypes.nextOf (.ref it)) Q E s := by
  obtain ⟨o, ho, hc, hd⟩ := id hit
  unfold SmallTypes.nextOf
  refine wpAny_bind (wpAny_callSpecial?_slot (name := PySem.Str.ofString "__next__") (KBw.iter_typeIs hit) KBw.slot_next
    (wpAny_call_entry KBw.slot_next (KBw.iter_typeIs hit) KBw.entry_next ?_ (KBw.args_next _)))
  show wpAny _ _ (field (.ref it) 0 >>= _) _ _ s
  refine wpAny_bind (wpAny_field ho hd (x := .bytes b t) rfl ?_)
  refine bm_if_false rfl ?_
  show wpAny _ _ (field (.ref it) 1 >>= _) _ _ s
  refine wpAny_bind (wpAny_field ho hd (x := .int i 0) rfl ?_)
  refine wpAny_bind (wpAny_of_eq (a := b) rfl ?_)
  simp only [Int.toNat_natCast, hx]
  refine wpAny_bind (wpAny_setField ho hd (by simp) (wpAny_bind (wpAny_mkInt (wpAny_pure ⟨_, rfl, wpAny_pure (hQ _ ?_ (Heap.SameBut.update ..))⟩))))
  exact ⟨_, Heap.get?_update_self _ ho (Obj.isFreed_of_fields (Obj.data_mapFields hd _)), (Obj.cls_mapFields ..).trans hc, by
    rw [Obj.data_mapFields hd]; simp [rawInt]⟩
theorem nextOf_end {it : Addr} {i : Nat} {Q : Value → Shared → Prop} (hh : A.handled = none) (hit : KBw.IsBytesIter s.heap it b t i) (hx : b[i]? = none)
    (hE : ∀ h' e, Heap.ExtBut it s.heap h' → (∃ o, h'.get? e = some o ∧ o.cls = .type "StopIteration") → E (.ref e) { s with heap := h' }) :
    wpAny (model prog w) A (SmallTypes.nextOf (.ref it)) Q E s := by
  obtain ⟨o, ho, hc, hd⟩ := id hit
  unfold SmallTypes.nextOf
  refine wpAny_bind (wpAny_callSpecial?_slot (name := PySem.Str.ofString "__next__") (KBw.iter_typeIs hit) KBw.slot_next
    (wpAny_call_entry KBw.slot_next (KBw.iter_typeIs hit) KBw.entry_next ?_ (KBw.args_next _)))
  show wpAny _ _ (field (.ref it) 0 >>= _) _ _ s
  refine wpAny_bind (wpAny_field ho hd (x := .bytes b t) rfl ?_)
  refine bm_if_false rfl ?_
  show wpAny _ _ (field (.ref it) 1 >>= _) _ _ s
  refine wpAny_bind (wpAny_field ho hd (x := .int i 0) rfl ?_)
  refine wpAny_bind (wpAny_of_eq (a := b) rfl ?_)
  simp only [Int.toNat_natCast, hx]
  refine wpAny_bind (wpAny_rule (wpAny_bind (wpAny_setField ho hd (by simp) ?_)))
  show wpAny _ _ (newExc (.type "StopIteration") [] >>= _) _ _ _
  refine wpAny_bind ?_
  simp only [newExc, newTuple]
  refine wpAny_bind (wpAny_newObj_type ?_ (by size_fits))
  refine wpAny_bind (m := firstArgMember _ _) (wpAny_of_eq (a := Value.none) (by first | rfl | (simp only [firstArgMember]; rfl)) ?_)
  refine wpAny_newObj_type ?_ (by size_fits)
  simp only [raiseNew]
  refine wpAny_bind (wpAny_handled ?_)
  first | rw [show A.in1.handled = none from hh] | rw [hh]
  refine wpAny_bind (wpAny_pure (wpAny_throw ?_))
  exact hE _ _ (((Heap.SameBut.update ..).extBut.push _).push _) ⟨_, Heap.get?_push_size _ rfl, rfl⟩
end
theorem bytesDraws {prog : Program} {w : World} {A : Around} (hh : A.handled = none) (it : Addr) (b : Array UInt8) (t : Tok) :
    Draws prog w A it [it] b.size (fun i x => ∃ c u, b[i]? = some c ∧ x = .int (c.toNat : Int) u) (fun i h => KBw.IsBytesIter h it b t i) where
  live := fun _ _ st => let ⟨o, ho, _⟩ := st; ⟨o, ho⟩
  frame := fun _ _ _ st hk => let ⟨o, ho, r⟩ := st; ⟨o, hk it (by simp) o ho, r⟩
  item := fun i s Q E hi st hQ => by
    refine nextOf_item st (c := b[i]) (by simp [hi]) fun h' hit' hs' => ?_
    exact hQ _ h' (s.toks + 1) ⟨_, _, by simp [hi], rfl⟩ hit' hs'
  done := fun s Q E st hE => nextOf_end hh st (by simp) hE

set_option maxHeartbeats 1000000 in
theorem meets_enumerate_newB (x : Array UInt8) (t : Tok) :
    Meets (Builtin.«enumerate.__new__» ⟨[.type "enumerate", .bytes x t], []⟩) (fun _ R s =>
      R (.ok (.ret (.ref (s.heap.push { cls := .type "bytes_iterator", data := .fields #[.bytes x t, .int 0 0] }).objs.size)))
        { s with heap := (s.heap.push { cls := .type "bytes_iterator", data := .fields #[.bytes x t, .int 0 0] }).push { cls := .type "enumerate", data := .fields #[.none, .bool false, .ref s.heap.objs.size, rawInt 0, .none, .none] } }) :=
  .of_wp fun prog w A R s h => by
    obtain ⟨hp, g, d, tk, os⟩ := s
    have hsub := sub_enumerate
    wp_walk
    refine wpAny_stack_any fun st => wpAny_pure ?_
    split
    · rename_i c _ _ _ _ _
      cases (c == Value.type "enumerate")
      · wp_walk using KBw.pyIter_bytes
        exact ⟨_, rfl, h⟩
      · wp_walk using KBw.pyIter_bytes
        exact ⟨_, rfl, h⟩
    · wp_walk using KBw.pyIter_bytes
      exact ⟨_, rfl, h⟩
section
variable {prog : Program} {w : World} {A : Around} {E : Value → Shared → Prop} {s : Shared}
theorem call_enumerate_bytes {x : Array UInt8} {t : Tok} {Q : Value → Shared → Prop}
    (h : ∀ h', IsEnum h' (s.heap.objs.size + 1) s.heap.objs.size 0 .none → KBw.IsBytesIter h' s.heap.objs.size x t 0 → h'.objs.size = s.heap.objs.size + 2 →
      (∀ b o, s.heap.get? b = some o → h'.get? b = some o) → Q (.ref (s.heap.objs.size + 1)) { s with heap := h' }) :
    wpAny (model prog w) A (call (.type "enumerate") [.bytes x t]) Q E s := by
  refine callType_new F.called_enumerate (by decide) (F.typeCall_enumerate_1 _) (F.newCall_enumerate_1 _) (fun obj => F.args_object_init_2 obj _) F.entry_enumerate_new
    (meets_enumerate_newB x t) ?_
  have hz : (s.heap.push { cls := .type "bytes_iterator", data := .fields #[.bytes x t, .int 0 0] }).objs.size = s.heap.objs.size + 1 := Heap.size_push ..
  show _ ∧ _
  rw [hz]
  have he : IsEnum ((s.heap.push { cls := .type "bytes_iterator", data := .fields #[.bytes x t, .int 0 0] }).push
      { cls := .type "enumerate", data := .fields #[.none, .bool false, .ref s.heap.objs.size, rawInt 0, .none, .none] }) (s.heap.objs.size + 1) s.heap.objs.size 0 .none := by
    have := Heap.get?_push_size (s.heap.push { cls := .type "bytes_iterator", data := .fields #[.bytes x t, .int 0 0] })
      (o := { cls := .type "enumerate", data := .fields #[.none, .bool false, .ref s.heap.objs.size, rawInt 0, .none, .none] }) rfl
    rw [hz] at this; exact this
  refine ⟨⟨_, he, rfl⟩, h _ he ⟨_, Heap.get?_push_of_some _ (Heap.get?_push_size _ rfl), rfl, rfl⟩ (by rw [Heap.size_push, hz]) fun b o y => Heap.get?_push_of_some _ (Heap.get?_push_of_some _ y)⟩
end
def bItems : Nat → List UInt8 → List Itm
  | _, [] => []
  | i, c :: r => .pairF (fun t => .int (i : Int) t) (.int (c.toNat : Int)) :: bItems (i + 1) r
theorem bItems_length : ∀ (l : List UInt8) (a : Nat), (bItems a l).length = l.length
  | [], _ => rfl
  | _ :: r, a => congrArg (· + 1) (bItems_length r (a + 1))
theorem bItems_get : ∀ (l : List UInt8) (a i : Nat) {c : UInt8}, l[i]? = some c → (bItems a l)[i]? = some (.pairF (fun t => .int ((a + i : Nat) : Int) t) (.int (c.toNat : Int)))
  | [], _, _, _, h => by simp at h
  | x :: r, a, 0, c, h => by
    have e : x = c := by simpa using h
    subst e
    rfl
  | x :: r, a, i + 1, c, h => by
    have q := bItems_get r (a + 1) i (c := c) (by simpa using h)
    have e : a + 1 + i = a + (i + 1) := by omega
    rw [e] at q
    simpa [bItems] using q
section
variable {prog : Program} {w : World} {A : Around} {E : Value → Shared → Prop} {s : Shared} {env : Env} {h₀ : Heap} {body : List Stmt} {Q : Flow → Shared → Prop}
theorem enum_bytes {elts : List Expr} {k : Nat} {pos : Pos} {x : Array UInt8} {t : Tok} {m₀ : Str → Option Value} {news : List (Addr × Obj)}
    (hh : A.handled = none) (F : Fr h₀ env.locals s.heap m₀) (N : News h₀ env.locals s.heap news)
    (rest₀ : ∀ I : Addr, (∀ p ∈ news, p.1 < I) → ItemsRest prog w A E h₀ env (.Tuple elts k pos) body Q s [(I + 1, "enumerate"), (I, "bytes_iterator")] [] (bItems 0 x.toList) m₀ news) :
    wpAny (model prog w) A (call (.type "enumerate") [.bytes x t]) (fun xv s₁ => wpAny (model prog w) A (pyIter xv) (fun it s₂ => TurnsAt prog w A h₀ env (.Tuple elts k pos) body Q E it s₂) E s₁) E s := by
  have hLs : env.locals < s.heap.objs.size := F.ns.lt
  refine call_enumerate_bytes fun h' hE hI hsz hk => ?_
  refine wpAny_pyIter_enum hE ?_
  refine ktu_core (tk0 := s.toks) (keep := []) (KTurns.ofWalksU (WalksT.enumerateD (fp := [s.heap.objs.size]) (bytesDraws (A := A.in1) hh s.heap.objs.size x t) (s.heap.objs.size + 1) (Nat.succ_ne_self _) (by simp) (by simp)).toU) (by rw [bItems_length, Array.length_toList]) ?_ ?_ ?_ ?_ ?_ ?_ ?_ ?_ (F.keeps hk) (N.grown hk) trivial (rest₀ _ fun p hp => Heap.lt_size (N p hp).1)
  · rintro i v h ⟨T, vals, rfl, ⟨t, y, ⟨c, u, hc, rfl⟩, rfl⟩, hT⟩
    refine ⟨_, bItems_get x.toList 0 i (c := c) (by simpa using hc), T, t, .int (c.toNat : Int) u, rfl, ?_, ?_⟩
    · exact PyProof.V.Flat.int _ _
    · show IsTup h T #[.int ((0 + i : Nat) : Int) t, _]
      rw [Nat.zero_add]
      exact hT
  · rintro i h ⟨⟨old, he⟩, ⟨oi, hoi, hic, _⟩⟩
    have he' : ∃ oe : Obj, h.get? (s.heap.objs.size + 1) = some oe ∧ oe.cls = .type "enumerate" := ⟨_, he, rfl⟩
    obtain ⟨oe, h1, h2⟩ := he'
    refine ⟨[(s.heap.objs.size + 1, oe), (s.heap.objs.size, oi)], ⟨⟨rfl, h2⟩, ⟨rfl, hic⟩, trivial⟩, fun p hp => ?_⟩
    rcases List.mem_cons.mp hp with rfl | hp
    · exact h1
    · rw [List.mem_singleton.mp hp]; exact hoi
  · intro b hb
    have hb' : b = s.heap.objs.size + 1 ∨ b = s.heap.objs.size := by simpa using hb
    rcases hb' with rfl | rfl
    · exact ⟨by simp, ktu_new F (Nat.le_add_right _ _)⟩
    · exact ⟨by simp, ktu_new F (Nat.le_refl _)⟩
  · intro b hb
    simpa using hb
  · intro b hb
    exact .inl (by simpa using hb)
  · intro hI'
    have hb' : env.locals = s.heap.objs.size + 1 ∨ env.locals = s.heap.objs.size := by simpa using hI'
    rcases hb' with e | e
    · exact ktu_ne 1 hLs e
    · exact Nat.ne_of_lt hLs e
  · intro p hp hI'
    have hb' : p.1 = s.heap.objs.size + 1 ∨ p.1 = s.heap.objs.size := by simpa using hI'
    have hlp := Heap.lt_size (N p hp).1
    rcases hb' with e | e
    · exact ktu_ne 1 hlp e
    · exact Nat.ne_of_lt hlp e
  · exact ⟨⟨.none, hE⟩, hI⟩

theorem UnrPostW.mono {L : Addr} {s₁ : Shared} {its : List (Addr × Obj)} {rest rest' : (Str → Option Value) → List (Addr × Obj) → Prop} {f : Flow} {s₂ : Shared} (hr : ∀ m n, rest m n → rest' m n) (h : UnrPostW h₀ L s₁ its rest Q f s₂) : UnrPostW h₀ L s₁ its rest' Q f s₂ := by
  have up : UnrEndW h₀ L s₁ its rest s₂ → UnrEndW h₀ L s₁ its rest' s₂ := by
    rintro ⟨h', tk, m', news', e, F, N, off, r⟩
    exact ⟨h', tk, m', news', e, F, N, off, hr _ _ r⟩
  cases f with
  | ret v => exact h
  | brk => exact h
  | next => exact up h
  | cont => exact up h
theorem fr_with {h₀ h : Heap} {L : Addr} {m : Str → Option Value} {x : Str} {v : Value} (F : Fr h₀ L h m) (e : m x = some v) : Fr h₀ L h (fun y => if y = x then some v else m y) := by
  have : (fun y => if y = x then some v else m y) = m := by
    funext y
    by_cases h : y = x
    · rw [if_pos h, h, e]
    · rw [if_neg h]
  rw [this]; exact F
theorem items_one {target : Expr} {x : Str} {I : Addr} {news : List (Addr × Obj)} (P : Int → Prop)
    (turn : ∀ (i : Nat) (c : UInt8) (m : Str → Option Value) (n : Int) (t : Tok) (T : Addr) (ti tc : Tok) (h : Heap) (tk : Nat) (o o' : Obj), P n → IsTup h T #[.int (i : Int) ti, .int (c.toNat : Int) tc] →
      Fr h₀ env.locals h (fun y => if y = x then some (.int n t) else m y) → o.cls = .type "enumerate" → o'.cls = .type "bytes_iterator" → News h₀ env.locals h ((I + 1, o) :: (I, o') :: news) →
      wpAny (model prog w) A (assign target env (.ref T)) (fun _ s₂ => wpAny (model prog w) A (execs body env) (UnrPostW h₀ env.locals { s with heap := h, toks := tk } [(I + 1, o), (I, o')] (fun m' n' => n' = news ∧ ∃ n' t', m' x = some (.int n' t') ∧ P n') Q) E s₂) E { s with heap := h, toks := tk })
    (fin : ∀ (n : Int) (t : Tok) (m : Str → Option Value) (h : Heap) (tk : Nat), P n → Fr h₀ env.locals h (fun y => if y = x then some (.int n t) else m y) → News h₀ env.locals h news → Q .next { s with heap := h, toks := tk }) :
    ∀ (l : List UInt8) (i : Nat) (m : Str → Option Value) (n : Int) (t : Tok), m x = some (.int n t) → P n → ItemsRest prog w A E h₀ env target body Q s [(I + 1, "enumerate"), (I, "bytes_iterator")] [] (bItems i l) m news
  | [], i, m, n, t, hm, hp => ItemsRest.zero fun h tk F N => fin n t m h tk hp (fr_with F hm) N
  | c :: r, i, m, n, t, hm, hp => by
    refine ItemsRest.pairF fun T ti v h tk hv hT F => ?_
    obtain ⟨tc, rfl⟩ := PyProof.V.Flat.int_inv hv
    refine AllObj.cons fun o ho => AllObj.cons fun o' ho' => AllObj.nil fun N => ?_
    refine wpAny_mono (turn i c m n t T ti tc h tk o o' hp hT (fr_with F hm) ho ho' N) (fun _ s₂ h₂ => wpAny_mono h₂ (fun f s₃ p => UnrPostW.mono ?_ p) fun _ _ e => e) fun _ _ e => e
    rintro m' n' ⟨rfl, n₁, t₁, hm₁, hp₁⟩
    exact ⟨trivial, items_one P turn fin r (i + 1) m' n₁ t₁ hm₁ hp₁⟩
end
end Mine
end
section
open PySem PySem.W PyProof.Rows
set_option maxRecDepth 100000
namespace Mine
open Builtin
theorem bi_no_bytes : typeLookup (.type "int") "__bytes__" = pure none := by rw [typeLookup_type, builtinLookup_eq_fast]; kernel_rfl
theorem bi_index : typeLookup (.type "int") "__index__" = pure (some (.builtin "int.__index__")) := by rw [typeLookup_type, builtinLookup_eq_fast]; kernel_rfl
section
variable {prog : Program} {w : World} {A : Around} {E : Value → Shared → Prop} {s : Shared}
theorem bc_new {n : Nat} {x : Value} (hT : s.TypeIs x "int") (hs : asStr? x = pure none) (hi : asIndex x = pure (n : Int)) {Q : Value → Shared → Prop} (hn : n ≤ 16777216)
    (hQ : ∀ b t k, Array.size b = n → Q (.bytes b t) { s with toks := k }) :
    codeAny (model prog w) A (.call (.builtin "bytes.__new__") ⟨[.type "bytes", x], []⟩) (wants Q E) s := by
  have hiv := bi_index
  refine codeAny_of_tree ?_
  show wpAny _ A.in1 (do checkBuiltinCall "bytes.__new__" ⟨[.type "bytes", x], []⟩; again (.builtin "bytes.__new__" ⟨[.type "bytes", x], []⟩)) _ _ s
  refine wpAny_bind (wpAny_of_eq (F.bm_newCall _) (wpAny_pure ⟨plainId_quiet F.bm_plain _, codeAny_builtin F.bm_entry ?_⟩))
  rw [Around.under_plainId F.bm_plain _]
  unfold Builtin.«bytes.__new__»
  refine wpAny_bind (wpAny_of_eq (a := true) rfl ?_)
  refine bm_if_false rfl ?_
  refine wpAny_bind (wpAny_of_eq F.bm_sub ?_)
  refine bm_if_false rfl ?_
  refine wpAny_bind (wpAny_of_eq (F.bm_bind _) ?_)
  refine wpAny_bind (wpAny_of_eq (a := ()) rfl ?_)
  refine wpAny_bind (wpAny_of_eq (a := ()) rfl ?_)
  refine bm_if_false rfl ?_
  refine wpAny_bind (wpAny_specialOf hT bi_no_bytes ?_)
  dsimp only
  refine wpAny_bind (wpAny_of_eq (a := false) (by rw [hs]; rfl) ?_)
  refine bm_if_false rfl ?_
  refine wpAny_bind (wpAny_specialOf hT hiv ?_)
  refine bm_if_false rfl ?_
  refine wpAny_bind (wpAny_attempt (wpAny_of_eq hi ?_))
  dsimp only
  have hnn : n ≤ 16777216 := hn
  refine bm_if_false ?_ ?_
  · have e : Bytes.fitsIndex (n : Int) = true := by
      unfold Bytes.fitsIndex
      simp only [Bool.and_eq_true, decide_eq_true_eq]
      omega
    rw [e]; rfl
  · rw [if_neg (by omega), if_neg (by omega)]
    refine bm_if_false (KBy.tooLong_not (by rw [Int.toNat_natCast]; exact hn)) ?_
    refine wpAny_bind (wpAny_rule (wpAny_bind (wpAny_mkBytes ?_ (by rw [Array.size_replicate, Int.toNat_natCast, sizeLine_eq]; exact hn))))
    show wpAny _ _ (if (Value.type "bytes" == Value.type "bytes") = true then _ else _) _ _ _
    refine bm_if_true (by decide) ?_
    first
      | exact wpAny_pure (hQ _ _ _ (by rw [Array.size_replicate, Int.toNat_natCast]))
      | exact wpAny_bind (wpAny_pure (wpAny_pure (hQ _ _ _ (by rw [Array.size_replicate, Int.toNat_natCast]))))
theorem bytes_count {k : Int} {n : Nat} {t : Tok} {Q : Value → Shared → Prop} (hk : k = n) (hn : n ≤ 16777216)
    (hQ : ∀ b t' k', Array.size b = n → Q (.bytes b t') { s with toks := k' }) : wpAny (model prog w) A (call (.type "bytes") [.int k t]) Q E s := by
  subst hk
  refine callType_codes (Q₁ := fun obj s₁ => s₁.TypeIs obj "bytes" ∧ Q obj s₁) F.bm_called (F.bm_typeCall _) F.entry_object_init
    (bc_new (x := .int (n : Int) t) (typeIs_int _ _ _) rfl rfl hn fun b t' k' hb => ⟨PySem.W.typeIs_bytes _ _ _, hQ b t' k' hb⟩) fun obj s₁ h₁ => ?_
  exact ⟨h₁.1, F.args_object_init_2 obj _, object_init_meets F.bm_called.init.lookup F.bm_called.made (by decide) prog w A.in1 _ s₁ ⟨h₁.1, rfl, h₁.2⟩⟩
theorem add_le {b c : Array UInt8} {t u : Tok} {p q : Nat} {Q : Value → Shared → Prop} (hb : b.size ≤ p) (hc : c.size ≤ q) (hz : p + q ≤ 16777216)
    (h : ∀ d t' k, Array.size d ≤ p + q → Q (.bytes d t') { s with toks := k }) : wpAny (model prog w) A (binaryOp .Add (.bytes b t) (.bytes c u)) Q E s :=
  KBy.add_bytes (by omega) fun t' k => h _ t' k (by rw [Array.size_append]; omega)
theorem slice_le {value slice : PySem.Expr} {b : Array UInt8} {t : Tok} {h₀ : Heap} {L : Addr} {m : PySem.Str → Option Value} {news : List (Addr × Obj)} {l u : Value} {lo hi : Option Int} {Q : Value → Shared → Prop} {p : Nat}
    (hF : Fr h₀ L s.heap m) (hN : News h₀ L s.heap news) (hb : b.size ≤ p) (hz : p ≤ 16777216) (hl : IsPart l lo) (hu : IsPart u hi)
    (h : ∀ c h' t' k, Array.size c ≤ p → Fr h₀ L h' m → News h₀ L h' news → Q (.bytes c t') { s with heap := h', toks := k })
    (hs : subscripted slice false (.bytes b t) (.ref s.heap.objs.size) = operate [.ref s.heap.objs.size, .bytes b t] (getItem (.bytes b t) (.ref s.heap.objs.size)) := by with_unfolding_all rfl)
    (ht : ∀ r, letTemporaryGo value (.bytes b t) r = pure () := by intro _; with_unfolding_all rfl) :
    wpAny (model prog w) A (subscriptTail value slice (.bytes b t) (.ref s.heap.objs.size)) Q E { s with heap := s.heap.push { cls := .type "slice", data := .fields #[l, u, .none] } } :=
  KBc.slice_K hF hN rfl hl hu (by rw [KBw.ints_length]; omega) (fun h' t' k F N _ => h _ h' t' k (Nat.le_trans (KBc.size_picked_le b lo hi) hb) F N) hs ht
end
end Mine
end
section
open PySem PySem.Spec PySem.Calls PySem.W PyProof.Rows
set_option maxRecDepth 100000
namespace Mine
section
variable {prog : Program} {w : World} {A : Around} {E : Value → Shared → Prop} {s : Shared} {h₀ : Heap} {L : Addr} {m : Str → Option Value} {env : Env}
/-- a source of a comprehension, whatever it is -/
def SrcG (prog : Program) (w : World) (A : Around) (h₀ : Heap) (L : Addr) (m : Str → Option Value) (env : Env) (elt : Expr) (x : Str) (scope : Scope) (cl : List (Str × Addr)) (E : Value → Shared → Prop) (Fin : Shared → List Value → List (Addr × Obj) → Prop) (xv : Value) (s₁ : Shared) : Prop :=
  ∃ (I : Addr) (fp : List Addr) (n : Nat) (P : Nat → Value → Prop) (St : Nat → Heap → Prop) (S : List (Addr × Obj) → Prop) (news : List (Addr × Obj)), Walks prog w A I fp [I] n P St ∧ n ≤ sizeLine ∧ (∀ i h, St i h → ∃ o, h.get? I = some o) ∧
    (∀ i h h' o nw, St i h → h.get? I = some o → h'.get? I = some o → (∀ b o, h₀.get? b = some o → h'.get? b = some o) → News h₀ L h' nw → S nw → St i h') ∧
    wpAny (model prog w) A (pyIter xv) (fun it s₂ => it = .ref I ∧ ∃ g, s₂ = { s₁ with heap := g } ∧ St 0 g ∧ (∀ b ∈ fp, b < g.objs.size) ∧ Fr h₀ L g m ∧ News h₀ L g news ∧ L ≠ I ∧ h₀.get? I = none ∧ (∀ p ∈ news, p.1 ≠ I) ∧ S news) E s₁ ∧
    ∀ g, LCg.CompRest prog w A h₀ L m env elt x scope cl { s₁ with heap := g } S P (Fin { s₁ with heap := g }) n 0 [] news
theorem ListComp_G {elt iter : Expr} {x : Str} {px : Pos} {scope : Scope} {cl : List (Str × Addr)} {pos : Pos} {Q : Value → Shared → Prop} (F₀ : Fr h₀ L s.heap m)
    (hclos : closureFor scope env = pure cl) (hcell : ∀ y ∈ scope.names, y.2 ≠ .cell) (hkind : scope.kind = .function)
    (hnames : ∀ y ∈ scope.names, y.2 = .local → scope.names.lookup y.1 = some .local) (hx : scope.names.lookup x = some .local)
    (h : wpAny (model prog w) A (eval iter env) (SrcG prog w A h₀ L m env elt x scope cl E (fun s₂ => LCg.FinE h₀ L m s₂ Q)) E s)
    (hs : ∀ x, foldedSetIterable iter env x = pure x := by intro _; rfl) :
    wpAny (model prog w) A (eval (.ListComp elt [⟨.Name x px, iter, [], 0⟩] scope pos) env) Q E s := by
  rw [eval_ListComp]
  refine wpAny_comprehension_free (use := none) rfl hs hclos hkind hnames (wpAny_mono h (fun xv s₁ h₁ => ?_) fun _ _ e => e)
  obtain ⟨I, fp, n, P, St, S, news, W, hsz, hIo, hSt, hit, R⟩ := h₁
  refine wpAny_mono hit (fun it s₂ h₂ => ?_) fun _ _ e => e
  obtain ⟨rfl, g, rfl, hst, hfp, F, N, hLI, hI0, off, hS⟩ := h₂
  refine LCg.block_U W hsz hIo hSt hcell hkind hx hst hfp F N hLI hI0 off hS (R g) ?_
  intro D C h tk m' ys news' F' N' o1 hn hC₀ hD₀ hCL hDL hCD offC fin
  refine ⟨m', hn, fun h'' hs'' => fin D h'' tk (F'.change hs'' hCL hC₀) (fun p hp => ?_) o1⟩
  refine ⟨hs''.extBut _ _ ?_ (N' p hp).1, (N' p hp).2⟩
  rcases List.mem_cons.mp hp with rfl | hp
  · exact Ne.symm hCD
  · exact offC p hp
theorem SrcG.range {elt : Expr} {x : Str} {scope : Scope} {cl : List (Str × Addr)} {Fin : Shared → List Value → List (Addr × Obj) → Prop} {r : Addr} {a b c : Int} {t u v : Tok} {n : Nat} {news : List (Addr × Obj)} {s₁ : Shared}
    (hh : A.handled = none) (F : Fr h₀ L s₁.heap m) (N : News h₀ L s₁.heap news) (hr : IsRange s₁.heap r a b c t u v) (hsm : Builtin.Range.small a b c = true) (hn : Builtin.Range.rangeSize a b c = ((n : Nat) : Int)) (hsz : n ≤ sizeLine)
    (h : ∀ g, LCg.CompRest prog w A h₀ L m env elt x scope cl { s₁ with heap := g } (fun _ => True) (fun i v => ∃ t, v = .int (a + (i : Int) * c) t) (Fin { s₁ with heap := g }) n 0 [] news) :
    SrcG prog w A h₀ L m env elt x scope cl E Fin (.ref r) s₁ := by
  refine ⟨s₁.heap.objs.size, [s₁.heap.objs.size], n, _, _, fun _ => True, news, Walks.range hh _ a c n, hsz, fun i h st => ⟨_, st⟩, ?_, ?_, h⟩
  · intro i h h' o nw st e e' _ _ _
    have st' : h.get? s₁.heap.objs.size = some _ := st
    show h'.get? s₁.heap.objs.size = some _
    rw [e', ← e]; exact st'
  · refine wpAny_pyIter_range hr hsm ?_
    refine ⟨rfl, _, rfl, ?_, ?_, F.push _, N.grown fun _ _ e => Heap.get?_push_of_some _ e, Nat.ne_of_lt F.ns.lt, next_is_new F, fun p hp => Nat.ne_of_lt (Heap.lt_size (N p hp).1), trivial⟩
    · show IsRangeIter _ _ _ _ _; rw [hn]; simpa using Heap.get?_push_size _ rfl
    · intro b hb
      rw [List.mem_singleton.mp hb, Heap.size_push]; exact Nat.lt_succ_self _
theorem SrcG.tuple {elt : Expr} {x : Str} {scope : Scope} {cl : List (Str × Addr)} {Fin : Shared → List Value → List (Addr × Obj) → Prop} {ax : Addr} {o : Obj} {its : Array Value} {k : Nat} {news : List (Addr × Obj)} {s₁ : Shared}
    (hh : A.handled = none) (F : Fr h₀ L s₁.heap m) (N : News h₀ L s₁.heap news) (hm : (ax, o) ∈ news) (hc : o.cls = .type "tuple") (hd : o.data = .seq its k) (hsz : its.size ≤ sizeLine)
    (h : ∀ g, LCg.CompRest prog w A h₀ L m env elt x scope cl { s₁ with heap := g } (fun nw => (ax, o) ∈ nw) (fun i v => its[i]? = some v) (Fin { s₁ with heap := g }) its.size 0 [] news) :
    SrcG prog w A h₀ L m env elt x scope cl E Fin (.ref ax) s₁ := by
  have hax := (N _ hm).1
  have hT : s₁.heap.IsTuple ax its := ⟨o, hax, hc, k, hd⟩
  have hlt : ax < s₁.heap.objs.size := Heap.lt_size hax
  have up : ∀ b o, s₁.heap.get? b = some o → (s₁.heap.push { cls := .type "tuple_iterator", data := .fields #[.ref ax, .int 0 0] }).get? b = some o := fun b o e => Heap.get?_push_of_some _ e
  refine ⟨s₁.heap.objs.size, [s₁.heap.objs.size, ax], its.size, _, _, fun nw => (ax, o) ∈ nw, news, Walks.tuple hh _ ax (Nat.ne_of_lt hlt) its, hsz, ?_, ?_, ?_, h⟩
  · intro i h st
    obtain ⟨o, e, _⟩ := st.1
    exact ⟨o, e⟩
  · intro i h h' o' nw st e e' _ N' S
    obtain ⟨oi, hoi, r⟩ := st.1
    rw [e] at hoi; cases hoi
    exact ⟨⟨o', e', r⟩, ⟨o, (N' _ S).1, hc, k, hd⟩⟩
  · refine wpAny_pyIter_tuple hT ?_
    refine ⟨rfl, _, rfl, ⟨⟨_, Heap.get?_push_size _ rfl, rfl, rfl⟩, hT.at fun o e => up _ o e⟩, ?_, F.keeps up, N.grown up, Nat.ne_of_lt F.ns.lt, next_is_new F, fun p hp => Nat.ne_of_lt (Heap.lt_size (N p hp).1), hm⟩
    intro b hb
    rcases List.mem_cons.mp hb with rfl | hb
    · rw [Heap.size_push]; exact Nat.lt_succ_self _
    · rw [List.mem_singleton.mp hb, Heap.size_push]; exact Nat.lt_succ_of_lt hlt

theorem kcf_step {n : Nat} {a c : Int} {elt : Expr} {x : Str} {scope : Scope} {cl : List (Str × Addr)} {S : List (Addr × Obj) → Prop} {Fin : List Value → List (Addr × Obj) → Prop} {news : List (Addr × Obj)} (g : Int → Int)
    (turn : ∀ k t I oI C oC D m₂ ys h tk (E' : Value → Shared → Prop), k ∈ rangeInts a c n → LCg.NsObj oC m₂ → m₂ x = some (.int k t) → Fr h₀ L h m → News h₀ L h ((I, oI) :: (C, oC) :: (D, LCg.lst ys) :: news) → LCg.Off3 I C D news → ((@Ne Nat I C) ∧ (@Ne Nat I D) ∧ (@Ne Nat C D)) → KPfMark →
      wpAny (model prog w) A (eval elt (compEnvC scope cl C env)) (LCg.CompEnd h₀ L m { s with heap := h, toks := tk } I oI C oC D (LCg.lst ys) S (fun y news' => KCfEl news (g k) y news')) E' { s with heap := h, toks := tk })
    (fin : KPfDone (∀ ys, IntsAre ys ((rangeInts a c n).map g) → Fin ys news)) : LCg.CompRest prog w A h₀ L m env elt x scope cl s S (fun i v => ∃ t, v = .int (a + (i : Int) * c) t) Fin n 0 [] news :=
  kcf_rest (ks := rangeInts a c n) g (rangeInts_length a c n) (fun i v hi hv => by
    obtain ⟨t, e⟩ := hv
    exact ⟨_, t, rangeInts_get hi, e⟩) turn fin
/-- a comprehension whose elements are bytes of one size -/
theorem comp_bytes {sz : Nat} {vs : List Value} {ns : List Int} {elt : Expr} {x : Str} {scope : Scope} {cl : List (Str × Addr)} {S : List (Addr × Obj) → Prop} {Fin : List Value → List (Addr × Obj) → Prop} {news : List (Addr × Obj)} (hi : IntsAre vs ns)
    (turn : ∀ k t I oI C oC D m₂ ys h tk (E' : Value → Shared → Prop), k ∈ ns → LCg.NsObj oC m₂ → m₂ x = some (.int k t) → Fr h₀ L h m → News h₀ L h ((I, oI) :: (C, oC) :: (D, LCg.lst ys) :: news) → LCg.Off3 I C D news → ((@Ne Nat I C) ∧ (@Ne Nat I D) ∧ (@Ne Nat C D)) →
      wpAny (model prog w) A (eval elt (compEnvC scope cl C env)) (LCg.CompEnd h₀ L m { s with heap := h, toks := tk } I oI C oC D (LCg.lst ys) S (fun y news' => news' = news ∧ ∃ b t, y = .bytes b t ∧ b.size = sz)) E' { s with heap := h, toks := tk })
    (fin : ∀ ys, BsAre ys sz → ys.length = ns.length → Fin ys news) : LCg.CompRest prog w A h₀ L m env elt x scope cl s S (fun i v => vs.toArray[i]? = some v) Fin vs.toArray.size 0 [] news := by
  have hlen : vs.length = ns.length := hi.length
  have key : ∀ (j i : Nat) (ys : List Value), i + j = vs.length → ys.length = i → BsAre ys sz → LCg.CompRest prog w A h₀ L m env elt x scope cl s S (fun i v => vs.toArray[i]? = some v) Fin j i ys news := by
    intro j
    induction j with
    | zero =>
      intro i ys hi' hy hb
      exact LCg.CompRest.zero (fin ys hb (by omega))
    | succ j ih =>
      intro i ys hi' hy hb
      refine LCg.CompRest.succ ?_
      intro v I oI C oC D m₂ h tk E' hv hC hx F N off ne
      obtain ⟨k, t, rfl, hk⟩ := IntsAre.at hi i v (by simpa using hv)
      refine wpAny_mono (turn k t I oI C oC D m₂ ys h tk E' (List.mem_of_getElem? hk) hC hx F N off ne) (fun y s₂ hq => ?_) fun _ _ e => e
      obtain ⟨h', tk', nw, e, F', N', off', hS, rfl, b, tb, rfl, hbs⟩ := hq
      refine ⟨h', tk', _, e, F', N', off', hS, ih (i + 1) _ (by omega) (by rw [List.length_append, hy]; rfl) ?_⟩
      intro v hv'
      rcases List.mem_append.mp hv' with hv' | hv'
      · exact hb v hv'
      · rw [List.mem_singleton.mp hv']; exact ⟨b, tb, rfl, hbs⟩
  rw [List.size_toArray]
  exact key _ 0 [] (by omega) rfl fun v hv => nomatch hv
theorem mem_down {n : Nat} {k : Int} (h : k ∈ rangeInts ((n : Int) - 1) (-1) n) : 0 ≤ k ∧ k < n := by
  obtain ⟨i, hi, rfl⟩ := List.mem_map.mp h
  rw [List.mem_range] at hi
  omega
end
end Mine
end
section
open PySem PySem.Spec PySem.Calls PySem.W PyProof.Rows
set_option maxRecDepth 100000
namespace Mine
section
variable {prog : Program} {w : World} {A : Around} {E : Value → Shared → Prop} {s : Shared} {h₀ : Heap} {L : Addr} {m : Str → Option Value} {env : Env}
theorem ints_snoc {ys : List Value} {ns : List Int} {k : Int} {t : Tok} (h : IntsAre ys ns) : IntsAre (ys ++ [.int k t]) (ns ++ [k]) := IntsAre.append h (.cons k t .nil)
/-- a comprehension with a test: its ints -/
theorem comp_filter {α : Type} {items : List α} {Rl : Value → α → Prop} (keep : α → Bool) (val : α → Int) {ct elt : Expr} {x : Str} {scope : Scope} {cl : List (Str × Addr)} {S : List (Addr × Obj) → Prop} {P : Nat → Value → Prop} {Fin : List Value → List (Addr × Obj) → Prop} {news : List (Addr × Obj)} {n : Nat}
    (hn : n = items.length) (hP : ∀ i v, P i v → i < n → ∃ a, items[i]? = some a ∧ Rl v a)
    (turnT : ∀ v a I oI C oC D m₂ ys h tk (E' : Value → Shared → Prop), a ∈ items → Rl v a → keep a = true → LCg.NsObj oC m₂ → m₂ x = some v → Fr h₀ L h m → News h₀ L h ((I, oI) :: (C, oC) :: (D, LCg.lst ys) :: news) → LCg.Off3 I C D news → ((@Ne Nat I C) ∧ (@Ne Nat I D) ∧ (@Ne Nat C D)) →
      wpAny (model prog w) A (isTrue ct (compEnvC scope cl C env) (eval ct (compEnvC scope cl C env))) (fun ok s' => if ok = true then
        wpAny (model prog w) A (eval elt (compEnvC scope cl C env)) (LCg.CompEnd h₀ L m { s with heap := h, toks := tk } I oI C oC D (LCg.lst ys) S (fun y news' => news' = news ∧ ∃ t, y = .int (val a) t)) E' s' else False) E' { s with heap := h, toks := tk })
    (turnF : ∀ v a I oI C oC D m₂ ys h tk (E' : Value → Shared → Prop), a ∈ items → Rl v a → keep a = false → LCg.NsObj oC m₂ → m₂ x = some v → Fr h₀ L h m → News h₀ L h ((I, oI) :: (C, oC) :: (D, LCg.lst ys) :: news) → LCg.Off3 I C D news → ((@Ne Nat I C) ∧ (@Ne Nat I D) ∧ (@Ne Nat C D)) →
      wpAny (model prog w) A (isTrue ct (compEnvC scope cl C env) (eval ct (compEnvC scope cl C env))) (fun ok s' => if ok = true then False
        else LCg.CompEnd h₀ L m { s with heap := h, toks := tk } I oI C oC D (LCg.lst ys) S (fun _ news' => news' = news) Value.none s') E' { s with heap := h, toks := tk })
    (fin : ∀ ys, IntsAre ys ((items.filter keep).map val) → Fin ys news) : LCt.CompRestT prog w A h₀ L m env ct elt x scope cl s S P Fin n 0 [] news := by
  have key : ∀ (j i : Nat) (ys : List Value), i + j = n → IntsAre ys (((items.take i).filter keep).map val) → LCt.CompRestT prog w A h₀ L m env ct elt x scope cl s S P Fin j i ys news := by
    intro j
    induction j with
    | zero =>
      intro i ys hi hy
      have e : i = items.length := by omega
      subst e
      rw [List.take_length] at hy
      exact LCt.CompRestT.zero (fin ys hy)
    | succ j ih =>
      intro i ys hi hy
      refine LCt.CompRestT.succ ?_
      intro v I oI C oC D m₂ h tk E' hv hC hx F N off ne
      obtain ⟨a, ha, hR⟩ := hP i v hv (by omega)
      cases hk : keep a with
      | true =>
        refine wpAny_mono (turnT v a I oI C oC D m₂ ys h tk E' (List.mem_of_getElem? ha) hR hk hC hx F N off ne) (fun ok s₂ hq => ?_) fun _ _ e => e
        cases ok with
        | false => exact absurd hq (by simp)
        | true =>
          simp only [if_true] at hq ⊢
          refine wpAny_mono hq (fun y s₃ h₃ => ?_) fun _ _ e => e
          obtain ⟨h', tk', nw, e, F', N', off', hS, rfl, t, rfl⟩ := h₃
          refine ⟨h', tk', _, e, F', N', off', hS, ih (i + 1) _ (by omega) ?_⟩
          rw [List.take_add_one, ha]
          simpa [List.filter_append, List.filter_cons, hk] using ints_snoc (k := val a) (t := t) hy
      | false =>
        refine wpAny_mono (turnF v a I oI C oC D m₂ ys h tk E' (List.mem_of_getElem? ha) hR hk hC hx F N off ne) (fun ok s₂ hq => ?_) fun _ _ e => e
        cases ok with
        | true => exact absurd hq (by simp)
        | false =>
          simp only [Bool.false_eq_true, if_false] at hq ⊢
          obtain ⟨h', tk', nw, e, F', N', off', hS, rfl⟩ := hq
          refine ⟨h', tk', _, e, F', N', off', hS, ih (i + 1) _ (by omega) ?_⟩
          rw [List.take_add_one, ha]
          simpa [List.filter_append, List.filter_cons, hk] using hy
  exact key n 0 [] (by omega) (by simp only [List.take_zero, List.filter_nil, List.map_nil]; exact .nil)
end
end Mine
end
section
open PySem PySem.Spec PySem.Calls PySem.W PyProof.Rows
set_option maxRecDepth 100000
namespace Mine
section
variable {prog : Program} {w : World} {A : Around} {E : Value → Shared → Prop} {s : Shared} {h₀ : Heap} {L : Addr} {m : Str → Option Value} {env : Env}
/-- a comprehension whose elements may be objects of their own: the ledger grows -/
theorem comp_grow {α : Type} {items : List α} {Rl : Value → α → Prop} {El : List (Addr × Obj) → Value → α → Prop} (mono : ∀ nw nw' y a, (∀ p ∈ nw, p ∈ nw') → El nw y a → El nw' y a)
    {elt : Expr} {x : Str} {scope : Scope} {cl : List (Str × Addr)} {S : List (Addr × Obj) → Prop} {P : Nat → Value → Prop} {Fin : List Value → List (Addr × Obj) → Prop} {news : List (Addr × Obj)} {n : Nat}
    (hn : n = items.length) (hP : ∀ i v, P i v → i < n → ∃ a, items[i]? = some a ∧ Rl v a)
    (turn : ∀ nws v a I oI C oC D m₂ ys h tk (E' : Value → Shared → Prop), (∀ p ∈ news, p ∈ nws) → a ∈ items → Rl v a → LCg.NsObj oC m₂ → m₂ x = some v → Fr h₀ L h m → News h₀ L h ((I, oI) :: (C, oC) :: (D, LCg.lst ys) :: nws) → LCg.Off3 I C D nws → ((@Ne Nat I C) ∧ (@Ne Nat I D) ∧ (@Ne Nat C D)) →
      wpAny (model prog w) A (eval elt (compEnvC scope cl C env)) (LCg.CompEnd h₀ L m { s with heap := h, toks := tk } I oI C oC D (LCg.lst ys) S (fun y news' => (∀ p ∈ nws, p ∈ news') ∧ El news' y a)) E' { s with heap := h, toks := tk })
    (fin : ∀ ys nws, (∀ p ∈ news, p ∈ nws) → ys.length = items.length → (∀ (i : Nat) (y : Value), ys[i]? = some y → ∃ a, items[i]? = some a ∧ El nws y a) → Fin ys nws) : LCg.CompRest prog w A h₀ L m env elt x scope cl s S P Fin n 0 [] news := by
  have key : ∀ (j i : Nat) (ys : List Value) (nws : List (Addr × Obj)), i + j = n → (∀ p ∈ news, p ∈ nws) → ys.length = i → (∀ (i : Nat) (y : Value), ys[i]? = some y → ∃ a, items[i]? = some a ∧ El nws y a) → LCg.CompRest prog w A h₀ L m env elt x scope cl s S P Fin j i ys nws := by
    intro j
    induction j with
    | zero =>
      intro i ys nws hi hsub hy hE
      exact LCg.CompRest.zero (fin ys nws hsub (by omega) hE)
    | succ j ih =>
      intro i ys nws hi hsub hy hE
      refine LCg.CompRest.succ ?_
      intro v I oI C oC D m₂ h tk E' hv hC hx F N off ne
      obtain ⟨a, ha, hR⟩ := hP i v hv (by omega)
      refine wpAny_mono (turn nws v a I oI C oC D m₂ ys h tk E' hsub (List.mem_of_getElem? ha) hR hC hx F N off ne) (fun y s₂ hq => ?_) fun _ _ e => e
      obtain ⟨h', tk', nw, e, F', N', off', hS, hup, hy'⟩ := hq
      refine ⟨h', tk', _, e, F', N', off', hS, ih (i + 1) _ nw (by omega) (fun p hp => hup p (hsub p hp)) (by rw [List.length_append, hy]; rfl) ?_⟩
      intro i' y' hi'
      rcases Nat.lt_trichotomy i' ys.length with h1 | h1 | h1
      · rw [List.getElem?_append_left h1] at hi'
        obtain ⟨a', e1, e2⟩ := hE i' y' hi'
        exact ⟨a', e1, mono _ _ _ _ hup e2⟩
      · subst h1
        have hb : y = y' := by simpa using hi'
        subst hb
        exact ⟨a, by rw [hy]; exact ha, hy'⟩
      · rw [List.getElem?_eq_none (by rw [List.length_append, List.length_singleton]; omega)] at hi'
        cases hi'
  exact key n 0 [] news (by omega) (fun _ h => h) rfl (fun i y h => by simp at h)
end
end Mine
end
section
open PySem PySem.W PyProof.Rows
set_option maxRecDepth 100000
namespace Mine
section
variable {prog : Program} {w : World} {A : Around} {E : Value → Shared → Prop} {s : Shared} {value slice : PySem.Expr} {l : Addr} {vs : List Value} {ws : List PySem.Str} {i : Int} {u : Tok} {Q : Value → Shared → Prop}
theorem menu_text (ht : IsTup s.heap l vs.toArray) (hw : StrsAre vs ws) (h0 : 0 ≤ i) (h1 : i < (ws.length : Int)) (hfit : ws.length ≤ 100) (h : ∀ x t', x ∈ ws → Q (.str x t') s)
    (hs : subscripted slice false (.ref l) (.int i u) = operate [.ref l, .int i u] (getItem (.ref l) (.int i u)) := by with_unfolding_all rfl) :
    wpAny (model prog w) A (subscriptTail value slice (.ref l) (.int i u)) Q E s :=
  KTb.item_tup ht hw h0 h1 (by omega) (fun t' hlt => h _ t' (by
    rw [List.getD_eq_getElem?_getD, List.getElem?_eq_getElem hlt]
    exact List.getElem_mem hlt)) hs
end
def hereL : List PySem.Str := [Str.ofString "init", Str.ofString "two_way", Str.ofString "exstart", Str.ofString "exchange", Str.ofString "loading", Str.ofString "full"]
def goneL : List PySem.Str := [Str.ofString "down", Str.ofString "attempt"]
theorem here_are {t0 t1 t2 t3 t4 t5 : Tok} : StrsAre [.str (Str.ofString "init") t0, .str (Str.ofString "two_way") t1, .str (Str.ofString "exstart") t2, .str (Str.ofString "exchange") t3, .str (Str.ofString "loading") t4, .str (Str.ofString "full") t5] hereL :=
  .cons _ _ (.cons _ _ (.cons _ _ (.cons _ _ (.cons _ _ (.cons _ _ .nil)))))
theorem gone_are {t0 t1 : Tok} : StrsAre [.str (Str.ofString "down") t0, .str (Str.ofString "attempt") t1] goneL := .cons _ _ (.cons _ _ .nil)
end Mine
end
section
open PySem PySem.W PyProof.Rows
set_option maxRecDepth 100000
namespace Mine
open Builtin
theorem ti_meets {l : Addr} {vs : List Value} {ws : List Str} {x : Str} {t : Tok} {j : Nat} (hw : StrsAre vs ws) (hj : ws[j]? = some x) (hno : ∀ m, m < j → ws[m]? ≠ some x) :
    Meets (Builtin.«tuple.index» ⟨[.ref l, .str x t], []⟩) (fun _ R s => IsTup s.heap l vs.toArray ∧ ∀ t' k', R (.ok (.ret (.int (j : Int) t'))) { s with toks := k' }) := by
  refine .of_wp fun prog w A R s hS => ?_
  obtain ⟨⟨o, ho, hc, n, hd⟩, h⟩ := hS
  have hlen : vs.length = ws.length := hw.length
  have hjl : j < ws.length := by
    rcases Nat.lt_or_ge j ws.length with h | h
    · exact h
    · rw [List.getElem?_eq_none h] at hj; cases hj
  unfold Builtin.«tuple.index»
  refine wpAny_bind (wpAny_of_eq (a := (.ref l, [.str x t])) (by kernel_rfl) ?_)
  refine wpAny_bind (wpAny_tupleItemsOf ho hd ?_)
  dsimp only
  refine wpAny_bind (wpAny_pure ?_)
  refine wpAny_bind (wpAny_pure ?_)
  rw [Std.Legacy.Range.forIn_eq_forIn_range']
  have e1 : List.range' ([:Min.min vs.toArray.size vs.toArray.size] : Std.Legacy.Range).start ([:Min.min vs.toArray.size vs.toArray.size] : Std.Legacy.Range).size ([:Min.min vs.toArray.size vs.toArray.size] : Std.Legacy.Range).step = List.range' 0 (ws.length - 0) := by
    simp [Std.Legacy.Range.size, hlen]
  rw [e1]
  refine wpAny_bind ?_
  refine wpAny_forIn_list _ (fun rest (r : Option PySem.Fin × Unit) s' => s' = s ∧ r.1 = none ∧ ∃ i, rest = List.range' i (ws.length - i) ∧ i ≤ j) _ ?_ ?_ _ _ ⟨rfl, rfl, 0, rfl, Nat.zero_le _⟩
  · rintro a rest ⟨r1, r2⟩ s' ⟨rfl, hr1, i, hr, hi⟩
    have hlt : i < ws.length := Nat.lt_of_le_of_lt hi hjl
    obtain ⟨m, hm⟩ : ∃ m, ws.length - i = m + 1 := ⟨ws.length - i - 1, by omega⟩
    rw [hm, List.range'_succ] at hr
    obtain ⟨rfl, rfl⟩ := List.cons.inj hr
    obtain ⟨ty, hy⟩ := hw.get a ws[a] (List.getElem?_eq_getElem hlt)
    have hx : vs.toArray[a]? = some (.str ws[a] ty) := by simpa using hy
    rw [hx]
    dsimp only
    refine wpAny_bind (eqBool_str ?_)
    by_cases hax : a = j
    · subst hax
      have e : ws[a] = x := by
        rw [List.getElem?_eq_getElem hlt] at hj; exact Option.some.inj hj
      refine bm_if_true (by rw [e]; exact beq_self_eq_true x) ?_
      unfold retInt
      refine wpAny_bind (wpAny_bind (wpAny_mkInt ?_))
      exact wpAny_pure (wpAny_pure (wpAny_pure ⟨_, rfl, h _ _⟩))
    · have hne : ws[a] ≠ x := fun e => hno a (by omega) (by rw [List.getElem?_eq_getElem hlt, e])
      refine bm_if_false (beq_eq_false_iff_ne.mpr hne) ?_
      refine wpAny_pure ⟨rfl, rfl, a + 1, ?_, by omega⟩
      congr 1; omega
  · rintro ⟨r1, r2⟩ s' ⟨rfl, hr1, i, hr, hi⟩
    exfalso
    obtain ⟨m, hm⟩ : ∃ m, ws.length - i = m + 1 := ⟨ws.length - i - 1, by omega⟩
    rw [hm, List.range'_succ] at hr
    cases hr
section
variable {prog : Program} {w : World} {A : Around} {E : Value → Shared → Prop} {s : Shared}
theorem tup_index {l : Addr} {vs : List Value} {ws : List Str} {x : Str} {t : Tok} {j : Nat} {Q : Value → Shared → Prop} (hT : IsTup s.heap l vs.toArray) (hw : StrsAre vs ws) (hj : ws[j]? = some x) (hno : ∀ m, m < j → ws[m]? ≠ some x)
    (h : ∀ t' k', Q (.int (j : Int) t') { s with toks := k' }) : wpAny (model prog w) A (call (.builtin "tuple.index") [.ref l, .str x t]) Q E s :=
  have hTI : s.TypeIs (.ref l) "tuple" := hT.typeIs
  call_meets F.slot_tuple_index hTI F.entry_tuple_index (F.args_tuple_index_2 _ _) (ti_meets hw hj hno) ⟨hT, h⟩
theorem tup_index_method {K : Frag} {l : Addr} {its : List Value} {n : Nat} {sl : Array (Option Value)} {pl : Sem Bool} {Q : Value × List Value → Shared → Prop} (X : K.In s.heap) (hl : K.lookup l = some ⟨.type "tuple", none, .seq its.toArray n, sl⟩) (h : Q (.builtin "tuple.index", [.ref l]) s) :
    wpAny (model prog w) A (getMethod (.ref l) (Str.ofString "index") pl) Q E s :=
  getMethod_builtin (v := .ref l) ⟨_, X _ _ hl, rfl⟩ F.plainAttrs_tuple F.slot_tuple_index F.type_tuple_index (fun a e => by cases e; exact ⟨_, X _ _ hl, rfl⟩) h
end
end Mine
end
section
open PySem PySem.Spec PySem.Calls PySem.W PyProof.Rows PyProof.V
set_option maxRecDepth 100000
namespace Mine
theorem sorted_eq : ∀ {a b : List Int}, a.Perm b → a.Pairwise (· ≤ ·) → b.Pairwise (· ≤ ·) → a = b
  | [], b, p, _, _ => (List.nil_perm.mp p).symm
  | x :: r, [], p, _, _ => absurd p.length_eq (by simp)
  | x :: r, y :: q, p, ha, hb => by
    have hxy : x = y := by
      have h1 : x ∈ y :: q := p.mem_iff.mp List.mem_cons_self
      have h2 : y ∈ x :: r := p.mem_iff.mpr List.mem_cons_self
      rcases List.mem_cons.mp h1 with e | h1
      · exact e
      · rcases List.mem_cons.mp h2 with e | h2
        · exact e.symm
        · have a1 := (List.pairwise_cons.mp hb).1 x h1
          have a2 := (List.pairwise_cons.mp ha).1 y h2
          omega
    subst hxy
    rw [sorted_eq (List.Perm.cons_inv p) (List.pairwise_cons.mp ha).2 (List.pairwise_cons.mp hb).2]
def srt (ns : List Int) : List Int := ns.mergeSort fun a b => decide (a ≤ b)
theorem srt_perm (ns : List Int) : (srt ns).Perm ns := List.mergeSort_perm ns _
theorem srt_pw (ns : List Int) : (srt ns).Pairwise (· ≤ ·) := by
  have h := List.pairwise_mergeSort (le := fun (a b : Int) => decide (a ≤ b)) (fun a b c h1 h2 => by simp only [decide_eq_true_eq] at *; omega) (fun a b => by simp only [Bool.or_eq_true, decide_eq_true_eq]; omega) ns
  exact h.imp fun h => of_decide_eq_true h
theorem srt_of {a ns : List Int} (p : a.Perm ns) (h : a.Pairwise (· ≤ ·)) : a = srt ns := sorted_eq (p.trans (srt_perm ns).symm) h (srt_pw ns)
theorem srt_self {ns : List Int} (h : ns.Pairwise (· ≤ ·)) : srt ns = ns := (srt_of (List.Perm.refl _) h).symm
theorem srt_length (ns : List Int) : (srt ns).length = ns.length := (srt_perm ns).length_eq
theorem srt_of_perm {a b : List Int} (p : a.Perm b) : srt a = srt b := srt_of ((srt_perm a).trans p) (srt_pw a)
section
variable {prog : Program} {w : World} {A : Around} {E : Value → Shared → Prop} {s : Shared} {h₀ : Heap} {L l : Addr} {m : Str → Option Value} {news : List (Addr × Obj)} {vs : List Value} {ns : List Int} {Q : Value → Shared → Prop}
theorem sorted_srt {n : Nat} (F : Fr h₀ L s.heap m) (N : News h₀ L s.heap news) (hm : (l, PySem.W.listOf vs.toArray n) ∈ news) (hi : IntsAre vs ns) (h64 : ns.length < 64)
    (h : ∀ D vs' c h', Fr h₀ L h' m → News h₀ L h' ((D, PySem.W.listOf vs'.toArray c) :: news) → (∀ q ∈ news, q.1 < D) → IntsAre vs' (srt ns) → Q (.ref D) { s with heap := h' }) :
    wpAny (model prog w) A (call (.builtin "sorted") [.ref l]) Q E s :=
  kso_sorted F N ⟨_, (N _ hm).1, rfl, n, rfl⟩ hi h64 fun D vs' ns' c h' F' N' hlt hi' hl hp ho _ => h D vs' c h' F' N' hlt (srt_of hp ho ▸ hi')
theorem tuple_of_list {n : Nat} (F : Fr h₀ L s.heap m) (N : News h₀ L s.heap news) (hm : (l, PySem.W.listOf vs.toArray n) ∈ news) (hz : vs.length ≤ 16384)
    (h : ∀ D h', Fr h₀ L h' m → News h₀ L h' ((D, ({ cls := .type "tuple", data := .seq vs.toArray } : Obj)) :: news) → (∀ p ∈ news, p.1 < D) → Q (.ref D) { s with heap := h' }) : wpAny (model prog w) A (call (.type "tuple") [.ref l]) Q E s :=
  kde_tupleOf F N ⟨_, (N _ hm).1, rfl, n, rfl⟩ (by rw [List.size_toArray]; exact hz) rfl h
end
end Mine
end
section
open PySem PySem.Spec PySem.Calls PySem.W PyProof.Rows
set_option maxRecDepth 100000
namespace Mine
theorem entry_ul : entryFor table "dict.update.loop" = some Builtin.«dict.update.loop» := entryFor_of_tree (by kernel_rfl)
theorem plain_ul : plainId "dict.update.loop" = true := by decide +kernel
theorem keys_miss : typeLookup (.type "list") (Str.ofString "keys") = pure none := by rw [typeLookup_type, builtinLookup_eq_fast]; kernel_rfl
section
variable {prog : Program} {w : World} {A : Around} {E : Value → Shared → Prop} {s : Shared}
theorem no_keys {a : Addr} {xs : Array Value} {k : Nat} {Q : Option Value → Shared → Prop} (hx : s.heap.get? a = some { cls := .type "list", data := .seq xs k }) (hA : A.handled = none)
    (h : ∀ h' tk, (∀ b o, s.heap.get? b = some o → h'.get? b = some o) → Q none { s with heap := h', toks := tk }) :
    wpAny (model prog w) A (getAttr? (.ref a) (Str.ofString "keys")) Q E s := by
  obtain ⟨hp, g, d, tk, os⟩ := s
  have hT : ∀ tk', (⟨hp, g, d, tk', os⟩ : Shared).TypeIs (.ref a) "list" := fun _ => ⟨_, hx, rfl⟩
  have f1 := sub_AttributeError
  have f3 := F.slot_list_getattribute.lookup
  have f4 := F.slot_list_getattribute.bind (.ref a)
  have f5 := am_list_getattr_none
  unfold getAttr? getAttrBy? getAttrBy
  repeat (any_goals (first | assumption | exact hT _ | ((with_reducible show wpAny _ _ (call (Value.builtin "list.__getattribute__") _ _) _ _ _); refine call_meets F.slot_list_getattribute (hT _) am_entry_list_getattribute (F.args_list_getattribute_2 _ _) (meets_getattribute_miss_list a xs k #[] _ _ keys_miss (by decide)) ⟨hx, hA, fun h' tk' e hx' => ?_⟩) | wp_step))
  obtain ⟨t', u', he⟩ := hx'.there
  show wpAny _ _ (getattributeRaised _ _ _ _ _ _ _) _ _ _
  unfold getattributeRaised
  repeat (any_goals (first | assumption | wp_step))
  exact h _ _ hx'.keeps
theorem pair_items {a : Addr} {x y : Value} {c : Nat} {Q : List Value → Shared → Prop} (hx : s.heap.get? a = some { cls := .type "tuple", data := .seq #[x, y] c }) (h : Q [x, y] s) :
    wpAny (model prog w) A (Builtin.Dict.pairItems (.ref a)) Q E s := by
  have hT : s.TypeIs (.ref a) "tuple" := ⟨_, hx, rfl⟩
  unfold Builtin.Dict.pairItems
  refine wpAny_bind (wpAny_typeOf hT ?_)
  rw [if_pos (by decide)]
  unfold seqItems?
  refine wpAny_bind (wpAny_bind (wpAny_load hx ?_))
  dsimp only
  exact wpAny_pure (wpAny_pure h)
theorem upd_loop {R : Result → Shared → Prop} {I l d : Addr} {its : Array Value} {ns : List Int} (hh : A.handled = none) (hlI : l ≠ I) (hdI : d ≠ I) (hdl : d ≠ l) (hlen : its.size = ns.length) (hn : ns.length ≤ 64) (hnd : ns.Nodup) {h₁ : Heap}
    (hp : ∀ (i : Nat) v, its[i]? = some v → ∃ ad t k c, v = .ref ad ∧ ns[i]? = some k ∧ h₁.get? ad = some { cls := .type "tuple", data := .seq #[.int k t, .bool true] c } ∧ ad ≠ I ∧ ad ≠ d)
    (hR : ∀ h' tk, (∀ b o, b ≠ I → b ≠ d → h₁.get? b = some o → h'.get? b = some o) → h'.DictOf (intKind prog w) d (ns.map fun k => (k, Value.bool true)) → R (.ok (.ret .none)) { s with heap := h', toks := tk }) :
    ∀ (k i : Nat) (h : Heap) (tk : Nat) (t : Tok), ns.length - i = k → i ≤ ns.length → h.IsListIter I l i → h.IsList l its → h.DictOf (intKind prog w) d ((ns.take i).map fun k => (k, Value.bool true)) → (∀ b o, b ≠ I → b ≠ d → h₁.get? b = some o → h.get? b = some o) →
      codeAny (model prog w) A (.builtin "dict.update.loop" ⟨[.ref d, .ref I, .int (i : Int) t, .none], []⟩) R { s with heap := h, toks := tk } := by
  intro k
  induction k with
  | zero =>
    intro i h tk t hk hi hI hl hD hkeep
    have hin : i = ns.length := by omega
    subst hin
    refine codeAny_builtin entry_ul ?_
    rw [Around.under_plainId plain_ul _]
    show wpAny _ A.in1 (pyNext (.ref I) >>= _) _ _ _
    refine wpAny_bind (wpAny_pyNext_list_end (s := { s with heap := h, toks := tk }) (A := A.in1) hh hI hl (by simp [hlen]) fun h' he => ?_)
    dsimp only
    show wpAny _ A.in1 (Builtin.Dict.addKeywords d [] >>= _) _ _ _
    refine wpAny_bind (wpAny_pure (wpAny_pure (hR h' tk (fun b o h1 h2 e => he b o h1 (hkeep b o h1 h2 e)) ?_)))
    have hD' := hD.extBut he hdI
    rwa [List.take_length] at hD'
  | succ k ih =>
    intro i h tk t hk hi hI hl hD hkeep
    have hlt : i < ns.length := by omega
    have hlt' : i < its.size := by omega
    obtain ⟨ad, tv, kv, c, hv, hkv, hget, haI, had⟩ := hp i its[i] (by simp [hlt'])
    refine codeAny_builtin entry_ul ?_
    rw [Around.under_plainId plain_ul _]
    show wpAny _ A.in1 (pyNext (.ref I) >>= _) _ _ _
    refine wpAny_bind (wpAny_pyNext_list_item (s := { s with heap := h, toks := tk }) hI hl (x := .ref ad) (by rw [← hv]; simp [hlt']) fun h' hI' hs' => ?_)
    dsimp only
    have hs : Heap.SameBut I h h' := hs'
    have hl' : h'.IsList l its := hl.extBut hs.extBut hlI
    have hD' := hD.sameBut hs hdI
    have hg' := hs.extBut ad _ haI (hkeep ad _ haI had hget)
    refine wpAny_bind (wpAny_holding ?_)
    refine wpAny_bind (wpAny_tryCatch (pair_items (s := { s with heap := h', toks := tk }) hg' ?_))
    dsimp only
    refine wpAny_holding ?_
    refine wpAny_dictSet_pairs (knd := intKind prog w) (s := { s with heap := h', toks := tk }) (k := kv) (intKind_is _ _ _ _) hD' (fun h'' hD'' hs'' => ?_) (by rw [List.length_map, List.length_take, sizeLine_eq]; omega)
    have hs2 : Heap.SameBut d h' h'' := hs''
    dsimp only
    have e1 : ((i : Int) + 1) = ((i + 1 : Nat) : Int) := by omega
    refine wpAny_pure ⟨plainId_quiet plain_ul _, ?_⟩
    show codeAny _ _ (.builtin "dict.update.loop" ⟨[.ref d, .ref I, .int ((i : Int) + 1) 0, .none], []⟩) _ _
    rw [e1]
    refine ih (i + 1) h'' _ 0 (by omega) hlt (hI'.extBut hs2.extBut (Ne.symm hdI)) (hl'.extBut hs2.extBut (Ne.symm hdl)) ?_ (fun b o h1 h2 e => hs2.extBut b o h2 (hs.extBut b o h1 (hkeep b o h1 h2 e)))
    rw [List.take_add_one, hkv, List.map_append]
    have hfresh : ¬ (((ns.take i).map fun k => (k, Value.bool true)).any fun x => decide (x.1 = kv)) = true := by
      rw [List.any_eq_true]; rintro ⟨x, hx, he⟩
      obtain ⟨y, hy, rfl⟩ := List.mem_map.mp hx
      have hyk : y = kv := of_decide_eq_true he
      subst hyk
      have hsp : ns = ns.take i ++ ns.drop i := (List.take_append_drop i ns).symm
      rw [hsp, List.nodup_append] at hnd
      refine hnd.2.2 y hy y ?_ rfl
      refine List.mem_of_getElem? (i := 0) ?_
      rw [List.getElem?_drop]; exact hkv
    have e2 : stored ((ns.take i).map fun k => (k, Value.bool true)) kv (.bool true) = ((ns.take i).map fun k => (k, Value.bool true)) ++ [(kv, .bool true)] := by
      rw [stored, if_neg hfresh]
    rw [e2] at hD''
    exact hD''
end
end Mine
end
section
open PySem PySem.Spec PySem.Calls PySem.W PyProof.Rows
set_option maxRecDepth 100000
namespace Mine
theorem ints_of_get : ∀ {vs : List Value} {ns : List Int}, vs.length = ns.length → (∀ (j : Nat) (v : Value), vs[j]? = some v → ∃ k t, v = .int k t ∧ ns[j]? = some k) → IntsAre vs ns
  | [], [], _, _ => .nil
  | [], _ :: _, h, _ => by cases h
  | _ :: _, [], h, _ => by cases h
  | v :: vs, n :: ns, h, hp => by
    obtain ⟨k, t, rfl, hk⟩ := hp 0 v rfl
    cases (show n = k by simpa using hk)
    exact .cons n t (ints_of_get (by simpa using h) fun j u hu => hp (j + 1) u (by simpa using hu))
section
variable {prog : Program} {w : World} {A : Around} {E : Value → Shared → Prop} {s : Shared} {h₀ : Heap} {L l : Addr} {m : Str → Option Value} {news : List (Addr × Obj)} {Q : Value → Shared → Prop}
def PairsAre (news : List (Addr × Obj)) (vs : List Value) (ns : List Int) : Prop := vs.length = ns.length ∧ ∀ (i : Nat) (v : Value), vs[i]? = some v → ∃ ad t k c, v = .ref ad ∧ ns[i]? = some k ∧ (ad, ({ cls := .type "tuple", data := .seq #[.int k t, .bool true] c } : Obj)) ∈ news
theorem dict_of_pairs {vs : List Value} {ns : List Int} {c : Nat} (hh : A.handled = none) (F : Fr h₀ L s.heap m) (N : News h₀ L s.heap news) (hbig : sysModules < h₀.objs.size) (hm : (l, PySem.W.listOf vs.toArray c) ∈ news) (hp : PairsAre news vs ns) (hn : ns.length ≤ 64) (hnd : ns.Nodup)
    (h : ∀ D o' h' tk, Fr h₀ L h' m → News h₀ L h' ((D, o') :: news) → (∀ p ∈ news, p.1 < D) → (D == sysModules) = false → o'.IsDictOf (intKind prog w) (ns.map fun k => (k, Value.bool true)) → Q (.ref D) { s with heap := h', toks := tk }) :
    wpAny (model prog w) A (call (.type "dict") [.ref l]) Q E s := by
  have hgl := (N _ hm).1
  have hlt : l < s.heap.objs.size := Heap.lt_size hgl
  refine callType_codes (Q₁ := fun obj s₁ => obj = .ref s.heap.objs.size ∧ s₁ = { s with heap := s.heap.push { cls := .type "dict", data := .dict #[] } }) PySem.F.kt_called_dict (PySem.F.kt_typeCall_dict_1 _) PySem.F.entry_dict_init (kt_code_dict_new _ ⟨rfl, rfl⟩) ?_
  rintro obj s₁ ⟨rfl, rfl⟩
  have hnew : (s.heap.push { cls := .type "dict", data := .dict #[] }).DictOf (intKind prog w) s.heap.objs.size [] := Heap.DictOf.new s.heap
  have hgl' : (s.heap.push { cls := .type "dict", data := .dict #[] }).get? l = some (PySem.W.listOf vs.toArray c) := Heap.get?_push_of_some _ hgl
  refine ⟨hnew.typeIs, PySem.F.args_dict_init_2 _ _, ?_⟩
  unfold Builtin.«dict.__init__»
  refine wpAny_bind ?_
  unfold Builtin.Dict.selfAndRest
  refine wpAny_bind (wpAny_notOrdered_dict hnew.typeIs ?_)
  show wpAny _ _ (pure (s.heap.objs.size, [Value.ref l])) _ _ _
  refine wpAny_pure ?_
  show wpAny _ _ (Builtin.Dict.updateFrom "dict.__init__" s.heap.objs.size (.ref l) [] .none) _ _ _
  unfold Builtin.Dict.updateFrom
  have hT : Shared.TypeIs { s with heap := s.heap.push { cls := .type "dict", data := .dict #[] } } (.ref l) "list" := ⟨_, hgl', rfl⟩
  refine wpAny_bind (wpAny_typeOf hT ?_)
  rw [if_pos (by decide)]
  refine wpAny_bind (no_keys (A := A.in1.in1) (s := { s with heap := s.heap.push { cls := .type "dict", data := .dict #[] } }) (xs := vs.toArray) (k := c) hgl' (by simp [hh]) fun h1 tk1 k1 => ?_)
  have k1' : ∀ b o, (s.heap.push { cls := .type "dict", data := .dict #[] }).get? b = some o → h1.get? b = some o := k1
  dsimp only
  rw [if_pos (by rfl)]
  refine wpAny_bind (wpAny_rule ?_)
  have hl1 : h1.IsList l vs.toArray := ⟨_, k1' _ _ hgl', rfl, c, rfl⟩
  refine wpAny_bind (wpAny_pyIter_list (s := { s with heap := h1, toks := tk1 }) hl1 ?_)
  have hd1 : h1.DictOf (intKind prog w) s.heap.objs.size [] := by
    obtain ⟨o, es, ep, ho, r⟩ := hnew
    exact ⟨o, es, ep, k1' _ _ ho, r⟩
  have hdlt : s.heap.objs.size < h1.objs.size := by
    obtain ⟨o, es, ep, ho, r⟩ := hd1
    exact Heap.lt_size ho
  have hlt1 : l < h1.objs.size := Nat.lt_trans hlt hdlt
  have up : ∀ b o, s.heap.get? b = some o → (h1.push { cls := .type "list_iterator", data := .fields #[.ref l, .int 0 0] }).get? b = some o := fun b o e =>
    Heap.get?_push_of_some _ (k1' b o (Heap.get?_push_of_some _ e))
  refine wpAny_pure ⟨plainId_quiet plain_ul _, ?_⟩
  refine upd_loop (s := s) (I := h1.objs.size) (l := l) (d := s.heap.objs.size) (its := vs.toArray) (ns := ns) (A := A.in1) (by simp [hh]) (Nat.ne_of_lt hlt1) (Nat.ne_of_lt hdlt) (Nat.ne_of_gt hlt) (by rw [List.size_toArray]; exact hp.1) hn hnd (h₁ := h1.push { cls := .type "list_iterator", data := .fields #[.ref l, .int 0 0] }) ?_ ?_ ns.length 0 _ _ 0 (by omega) (Nat.zero_le _) ⟨_, Heap.get?_push_size _ rfl, rfl, rfl⟩ (hl1.push _) (hd1.push _) (fun _ _ _ _ e => e)
  · intro i v hv
    obtain ⟨ad, t, k, c', rfl, hk, hmem⟩ := hp.2 i v (by simpa using hv)
    have hga := (N _ hmem).1
    have hla : ad < s.heap.objs.size := Heap.lt_size hga
    exact ⟨ad, t, k, c', rfl, hk, up _ _ hga, Nat.ne_of_lt (Nat.lt_trans hla hdlt), Nat.ne_of_lt hla⟩
  · intro h' tk hk hD
    refine ⟨rfl, ?_⟩
    obtain ⟨o', ho', hd'⟩ := Heap.dictOf_iff.mp hD
    have kp : ∀ b o, s.heap.get? b = some o → h'.get? b = some o := fun b o e => hk b o (Nat.ne_of_lt (Nat.lt_trans (Heap.lt_size e) hdlt)) (Nat.ne_of_lt (Heap.lt_size e)) (up b o e)
    exact h _ o' h' tk (F.kept kp) (N.kept_cons F kp (Nat.le_refl _) ho') (fun p hp => Heap.lt_size (N p hp).1) (F.notModules hbig) hd'
theorem sorted_dict {d : Addr} {o : Obj} {ns : List Int} (hh : A.handled = none) (F : Fr h₀ L s.heap m) (N : News h₀ L s.heap news) (hm : (d, o) ∈ news) (hd : o.IsDictOf (intKind prog w) (ns.map fun k => (k, Value.bool true))) (hlo : (d == sysModules) = false) (hn : ns.length < 64)
    (h : ∀ D vs' c h' tk, Fr h₀ L h' m → News h₀ L h' ((D, PySem.W.listOf vs'.toArray c) :: news) → (∀ q ∈ news, q.1 < D) → IntsAre vs' (srt ns) → Q (.ref D) { s with heap := h', toks := tk }) :
    wpAny (model prog w) A (call (.builtin "sorted") [.ref d]) Q E s := by
  have hD : s.heap.DictOf (intKind prog w) d (ns.map fun k => (k, Value.bool true)) := Heap.dictOf_iff.mpr ⟨o, (N _ hm).1, hd⟩
  obtain ⟨ep, hat⟩ := hD.dictAt
  refine kdu_sorted (kdl_dict (knd := intKind prog w) (kvs := ns.map fun k => (k, Value.bool true)) (ep := ep) hlo) hh F N hat (by rw [List.length_map, sizeLine_eq]; omega) fun B h' tk vs F' N' l1 hl hv => ?_
  rw [List.length_map] at hl
  have hI : IntsAre vs ns := ints_of_get hl fun j v e => by
    obtain ⟨k, x, hx, hk⟩ := hv j v e
    obtain ⟨t, rfl⟩ := Value.isInt_shape hk
    refine ⟨k, t, rfl, ?_⟩
    rw [List.getElem?_map] at hx
    cases hj : ns[j]? with
    | none => rw [hj] at hx; cases hx
    | some q => rw [hj] at hx; cases hx; rfl
  have z := N' _ List.mem_cons_self
  have hB : B < h'.objs.size := Heap.lt_size z.1
  refine wpAny_call_entry PyProof.Rows.slot_list_sort ⟨_, z.1, rfl⟩ PyProof.Rows.entry_list_sort (list_sort_tree (s := { s with heap := h', toks := tk }) (n := 0) (vs := vs) z.1 hI (by omega) fun out ns' hI' hp hP => ⟨.none, rfl, ?_⟩) (PyProof.Rows.args_list_sort _)
  dsimp only
  obtain ⟨e, he⟩ := sortedHeap_at (vs := vs) (out := out) (n := 0) z.1
  have kp : ∀ b o, b ≠ B → h'.get? b = some o → (sortedHeap h' B vs out).get? b = some o := fun b o hb e => (sortedHeap_old hb (Heap.lt_size e)).trans e
  refine h B out.toList e _ tk ⟨F'.ns.at fun o e => kp _ _ (Ne.symm z.2.1) e, fun b o hb => kp b o (fun e => ?_) (F'.keep b o hb), F'.above⟩ ?_ l1 (srt_of hp hP ▸ hI')
  · rw [e, z.2.2] at hb; cases hb
  · intro p hp
    rcases List.mem_cons.mp hp with rfl | hp
    · exact ⟨by rw [Array.toArray_toList]; exact he, z.2⟩
    · have q := N' p (List.mem_cons_of_mem _ hp)
      exact ⟨kp _ _ (Nat.ne_of_lt (l1 p hp)) q.1, q.2⟩
end
end Mine
end
section
open PySem PySem.Spec PySem.Calls PySem.W PyProof.Rows PyProof.V
set_option maxRecDepth 100000
namespace Mine
theorem upd_type : typeOf (.builtin "dict.update") = pure (.type "method_descriptor") := by show builtinType _ = _; rw [builtinType_eq_fast]; kernel_rfl
section
variable {prog : Program} {w : World} {A : Around} {E : Value → Shared → Prop} {s : Shared} {h₀ : Heap} {L d d₂ : Addr} {m : Str → Option Value} {news : List (Addr × Obj)} {g : Obj → List (Addr × Obj)} {o o₂ : Obj} {kvs more res : List (Str × Value)}
theorem upd_method {pl : Sem Bool} {Q : Value × List Value → Shared → Prop} (N : News h₀ L s.heap news) (hp : (d, o) ∈ news) (hd : o.IsDictOf (PySem.strKind prog w) kvs) (h : Q (.builtin "dict.update", [.ref d]) s) :
    wpAny (model prog w) A (getMethod (.ref d) (Str.ofString "update") pl) Q E s := kob_method PySem.F.slot_dict_update upd_type N hp hd h
theorem dict_upd {Q : Value → Shared → Prop} (F : Fr h₀ L s.heap m) (N : News h₀ L s.heap news) (U : UpdF d o news g) (hd : o.IsDictOf (PySem.strKind prog w) kvs) (hp : (d₂, o₂) ∈ news) (hd₂ : o₂.IsDictOf (PySem.strKind prog w) more)
    (lo : (d₂ == sysModules) = false) (hne : @Ne Nat d d₂) (hsz : kvs.length + more.length ≤ 16777216) (he : merged kvs more = res)
    (h : ∀ h' o', Fr h₀ L h' m → News h₀ L h' (g o') → o'.IsDictOf (PySem.strKind prog w) res → Q .none { s with heap := h' }) :
    wpAny (model prog w) A (call (.builtin "dict.update") [.ref d, .ref d₂]) Q E s := by
  obtain ⟨pre, post, e, hg, a, b⟩ := U.split
  have hm := N (d, o) (by rw [e]; exact List.mem_append_right _ (.head _))
  have hD : s.heap.DictOf (PySem.strKind prog w) d kvs := Heap.dictOf_iff.mpr ⟨o, hm.1, hd⟩
  have hD₂ : s.heap.DictOf (PySem.strKind prog w) d₂ more := Heap.dictOf_iff.mpr ⟨o₂, (N _ hp).1, hd₂⟩
  refine call_meetsIn PySem.F.slot_dict_update hD.typeIs PySem.F.entry_dict_update (PySem.F.args_dict_update_2 _ _) (meets_dict_update (PySem.strKind prog w) d d₂ hne lo)
    ⟨kvs, more, hD, hD₂, (by rw [sizeLine_eq]; exact hsz), fun h' hmm _ hs => ?_⟩
  obtain ⟨o', ho', hd'⟩ := Heap.dictOf_iff.mp hmm
  subst e he
  exact h h' o' (F.change hs hm.2.1 hm.2.2) (hg o' ▸ N.setIn a b hs ho') hd'
end

/- what a dict holds, the tokens forgotten -/
inductive VS where
  | int (i : Int)
  | str (x : Str)
  | bool (b : Bool)
  | none
  | ref (a : Addr)
def VIs (v : Value) : VS → Prop
  | .int i => ∃ t, v = .int i t
  | .str x => ∃ t, v = .str x t
  | .bool b => v = .bool b
  | .none => v = .none
  | .ref a => v = .ref a
theorem VIs.i {i : Int} {t : Tok} : VIs (.int i t) (.int i) := ⟨t, rfl⟩
theorem VIs.s {x : Str} {t : Tok} : VIs (.str x t) (.str x) := ⟨t, rfl⟩
theorem VIs.b {b : Bool} : VIs (.bool b) (.bool b) := rfl
theorem VIs.n : VIs .none .none := rfl
theorem VIs.r {a : Addr} : VIs (.ref a) (.ref a) := rfl
def PIs : List (Str × Value) → List (Str × VS) → Prop
  | [], [] => True
  | p :: r, q :: r' => (p.1 = q.1 ∧ VIs p.2 q.2) ∧ PIs r r'
  | _, _ => False
theorem PIs.nil : PIs [] [] := trivial
theorem PIs.cons {k : Str} {v : Value} {x : VS} {r : List (Str × Value)} {r' : List (Str × VS)} (h : VIs v x) (t : PIs r r') : PIs ((k, v) :: r) ((k, x) :: r') := ⟨⟨rfl, h⟩, t⟩
def sput (sp : List (Str × VS)) (k : Str) (x : VS) : List (Str × VS) :=
  if sp.any (fun kv => kv.1 = k) then sp.map (fun kv => if kv.1 = k then (kv.1, x) else kv) else sp ++ [(k, x)]
def smerge (sp more : List (Str × VS)) : List (Str × VS) := more.foldl (fun acc kv => sput acc kv.1 kv.2) sp
def sget (sp : List (Str × VS)) (k : Str) : Option VS := (sp.find? fun kv => kv.1 = k).map (·.2)
theorem PIs.length : ∀ {kvs : List (Str × Value)} {sp : List (Str × VS)}, PIs kvs sp → kvs.length = sp.length
  | [], [], _ => rfl
  | _ :: _, _ :: _, h => congrArg (· + 1) (PIs.length h.2)
  | [], _ :: _, h => h.elim
  | _ :: _, [], h => h.elim
theorem PIs.any {k : Str} : ∀ {kvs : List (Str × Value)} {sp : List (Str × VS)}, PIs kvs sp → kvs.any (fun kv => kv.1 = k) = sp.any (fun kv => kv.1 = k)
  | [], [], _ => rfl
  | p :: r, q :: r', h => by rw [List.any_cons, List.any_cons, PIs.any h.2, h.1.1]
  | [], _ :: _, h => h.elim
  | _ :: _, [], h => h.elim
theorem PIs.map {k : Str} {v : Value} {x : VS} (hv : VIs v x) : ∀ {kvs : List (Str × Value)} {sp : List (Str × VS)}, PIs kvs sp → PIs (kvs.map (fun kv => if kv.1 = k then (kv.1, v) else kv)) (sp.map (fun kv => if kv.1 = k then (kv.1, x) else kv))
  | [], [], _ => trivial
  | p :: r, q :: r', h => by
    refine ⟨?_, PIs.map hv h.2⟩
    have e := h.1.1
    dsimp only
    by_cases hk : p.1 = k
    · rw [if_pos hk, if_pos (e ▸ hk)]; exact ⟨e, hv⟩
    · rw [if_neg hk, if_neg (e ▸ hk)]; exact h.1
  | [], _ :: _, h => h.elim
  | _ :: _, [], h => h.elim
theorem PIs.append : ∀ {kvs kvs' : List (Str × Value)} {sp sp' : List (Str × VS)}, PIs kvs sp → PIs kvs' sp' → PIs (kvs ++ kvs') (sp ++ sp')
  | [], _, [], _, _, h' => h'
  | _ :: _, _, _ :: _, _, h, h' => ⟨h.1, PIs.append h.2 h'⟩
  | [], _, _ :: _, _, h, _ => h.elim
  | _ :: _, _, [], _, h, _ => h.elim
theorem PIs.put {k : Str} {v : Value} {x : VS} {kvs : List (Str × Value)} {sp : List (Str × VS)} (h : PIs kvs sp) (hv : VIs v x) : PIs (stored kvs k v) (sput sp k x) := by
  unfold stored sput
  rw [h.any]
  by_cases hk : (sp.any fun kv => kv.1 = k) = true
  · rw [if_pos hk, if_pos hk]; exact h.map hv
  · rw [if_neg hk, if_neg hk]; exact h.append (.cons hv .nil)
theorem PIs.merge : ∀ {more : List (Str × Value)} {kvs : List (Str × Value)} {sp sm : List (Str × VS)}, PIs kvs sp → PIs more sm → PIs (merged kvs more) (smerge sp sm)
  | [], _, _, [], h, _ => h
  | p :: r, kvs, sp, q :: r', h, h' => by
    show PIs (merged (stored kvs p.1 p.2) r) (smerge (sput sp q.1 q.2) r')
    rw [h'.1.1]
    exact PIs.merge (h.put h'.1.2) h'.2
  | [], _, _, _ :: _, _, h => h.elim
  | _ :: _, _, _, [], _, h => h.elim
theorem PIs.get {k : Str} {x : VS} : ∀ {kvs : List (Str × Value)} {sp : List (Str × VS)}, PIs kvs sp → sget sp k = some x → ∃ v, valueAt kvs k = some v ∧ VIs v x
  | [], [], _, e => by cases e
  | p :: r, q :: r', h, e => by
    unfold sget at e
    unfold valueAt
    rw [List.find?_cons] at e ⊢
    rw [h.1.1]
    by_cases hk : q.1 = k
    · simp only [hk, decide_true] at e ⊢
      refine ⟨p.2, rfl, ?_⟩
      have : q.2 = x := Option.some.inj e
      rw [← this]; exact h.1.2
    · simp only [hk, decide_false] at e ⊢
      exact PIs.get h.2 e
  | [], _ :: _, h, _ => h.elim
  | _ :: _, [], h, _ => h.elim
def DictIs (prog : Program) (w : World) (o : Obj) (sp : List (Str × VS)) : Prop := ∃ kvs, o.IsDictOf (PySem.strKind prog w) kvs ∧ PIs kvs sp
section
variable {prog : Program} {w : World} {A : Around} {E : Value → Shared → Prop} {s : Shared} {h₀ : Heap} {L d d₂ : Addr} {m : Str → Option Value} {news : List (Addr × Obj)} {g : Obj → List (Addr × Obj)} {o o₂ : Obj} {sp sm res : List (Str × VS)}
theorem ds_method {pl : Sem Bool} {Q : Value × List Value → Shared → Prop} (N : News h₀ L s.heap news) (hp : (d, o) ∈ news) (hd : DictIs prog w o sp) (h : Q (.builtin "dict.update", [.ref d]) s) :
    wpAny (model prog w) A (getMethod (.ref d) (Str.ofString "update") pl) Q E s := let ⟨_, hd, _⟩ := hd; upd_method N hp hd h
theorem ds_update {Q : Value → Shared → Prop} (F : Fr h₀ L s.heap m) (N : News h₀ L s.heap news) (U : UpdF d o news g) (hd : DictIs prog w o sp) (hp : (d₂, o₂) ∈ news) (hd₂ : DictIs prog w o₂ sm)
    (lo : (d₂ == sysModules) = false) (hne : @Ne Nat d d₂) (hsz : sp.length + sm.length ≤ 16777216) (he : smerge sp sm = res)
    (h : ∀ h' o', Fr h₀ L h' m → News h₀ L h' (g o') → DictIs prog w o' res → Q .none { s with heap := h' }) :
    wpAny (model prog w) A (call (.builtin "dict.update") [.ref d, .ref d₂]) Q E s := by
  obtain ⟨kvs, hd, hk⟩ := hd
  obtain ⟨more, hd₂, hm⟩ := hd₂
  refine dict_upd F N U hd hp hd₂ lo hne (by rw [hk.length, hm.length]; exact hsz) rfl fun h' o' F' N' hd' => h h' o' F' N' ⟨_, hd', ?_⟩
  rw [← he]; exact hk.merge hm
theorem ds_set {Q : Unit → Shared → Prop} {k : Str} {t : Tok} {v : Value} {x : VS} (F : Fr h₀ L s.heap m) (N : News h₀ L s.heap news) (U : UpdF d o news g) (hd : DictIs prog w o sp) (hv : VIs v x) (hsz : sp.length ≤ 16777216) (he : sput sp k x = res)
    (h : ∀ h' o' tk', Fr h₀ L h' m → News h₀ L h' (g o') → DictIs prog w o' res → Q () { s with heap := h', toks := tk' }) :
    wpAny (model prog w) A (setItem (.ref d) (.str k t) v) Q E s := by
  obtain ⟨kvs, hd, hk⟩ := hd
  refine kda_set F N U hd (strKind_is prog w k t) (by rw [hk.length, sizeLine_eq]; exact hsz) fun h' o' F' N' hd' => h h' o' _ F' N' ⟨_, hd', ?_⟩
  rw [← he]; exact hk.put hv
theorem ds_item {value slice : PySem.Expr} {Q : Value → Shared → Prop} {k : Str} {t : Tok} {x : VS} (N : News h₀ L s.heap news) (hp : (d, o) ∈ news) (hd : DictIs prog w o sp) (he : sget sp k = some x)
    (h : ∀ v tk', VIs v x → Q v { s with toks := tk' })
    (hs : subscripted slice false (.ref d) (.str k t) = operate [.ref d, .str k t] (getItem (.ref d) (.str k t)) := by with_unfolding_all rfl) (hg : ∀ r, letTemporaryGo value (.ref d) r = pure () := by intro _; with_unfolding_all rfl) :
    wpAny (model prog w) A (subscriptTail value slice (.ref d) (.str k t)) Q E s := by
  obtain ⟨kvs, hd, hk⟩ := hd
  obtain ⟨v, hv, hx⟩ := hk.get he
  exact kda_item N hp hd (strKind_is prog w k t) hv (h v _ hx) hs hg
theorem ds_made {Q : Value → Shared → Prop} {vs : List (Value × Value)} (F : Fr h₀ L s.heap m) (N : News h₀ L s.heap news) (U : UpdF d o news g) (hd : o.IsDictOf (PySem.strKind prog w) []) (hk : allStrKeys vs = true) (hn : ((strPairs vs).map (·.1)).Nodup)
    (hs : PIs (strPairs vs) sp)
    (h : ∀ h' o' tk', Fr h₀ L h' m → News h₀ L h' (g o') → DictIs prog w o' sp → Q (.ref d) { s with heap := h', toks := tk' }) : KdnMade prog w (PySem.strKind prog w) d Q vs s :=
  kdn_made_str F N U hd hk hn fun h' o' F' N' x => h h' o' _ F' N' ⟨_, x, hs⟩
end
end Mine
end
section
open PySem PySem.W PyProof.Rows
set_option maxRecDepth 100000
set_option maxHeartbeats 8000000
namespace Mine
local macro_rules | `(tactic| k_room) => `(tactic| ktr_room)
local macro_rules | `(tactic| k_units) => `(tactic| ktr_units)
noncomputable abbrev Prg : Program := PySem.Challenge.rw_rh0209_01.row.prog
noncomputable abbrev LW : List Str := looseW hd.view_39 [Str.ofString "own_hello"]
variable {w : World} {mean : ExcName → Option Value} {mg mb : Str → Option Value} {dp un : Nat} {gd : Option (List Code)} {cn : Str} {cs : Scope} {a : Addr} {ccd : Value} {cl : List (Str × Addr)} {outer : List Env} {A₀ : Around} {base h₀ : Heap} {L : Addr} {m : Str → Option Value} {news : List (Addr × Obj)} {s : Shared} {Q E : Value → Shared → Prop}
theorem no_room {i : Int} {k : Nat} {e : Int} (h : Int.fdiv i e ≠ 0) (he : e = 2 ^ k) (h0 : 0 ≤ i) (h1 : i < 2 ^ k) : False := by
  apply h
  rw [he, Int.fdiv_eq_ediv_of_nonneg _ (by exact Int.le_of_lt (Int.pow_pos (by decide)))]
  exact Int.ediv_eq_zero_of_lt h0 h1
local macro_rules | `(tactic| walk_at "exec Raise some none") => `(tactic| (exfalso; (rename Int.fdiv _ _ ≠ 0 => hno); first | exact no_room (k := 8) hno (by decide) (by assumption) (by assumption) | exact no_room (k := 16) hno (by decide) (by assumption) (by assumption) | exact no_room (k := 32) hno (by decide) (by assumption) (by assumption)))
local macro_rules | `(tactic| cell_enter) => `(tactic| (refine' code_defC ?k1 ?k2 ?k3 ?k4 ?k5 ?kA ?kF ?kK ?k6 ?k7 ?k8 ?k9 ?kB ?kD ?_ ?c2 ?c3 ?c4; (case kA => exact rfl); (case kF => exact rfl); (case kK => assumption); (case k1 => k_asm); (case k2 => k_asm); (case k3 => k_asm); (case k4 => k_asm); (case k5 => k_asm); (case k6 => k_is); (case k7 => k_is); (case k8 => k_room); (case k9 => exact BindsTo.of_eq rfl); (case kB => exact rfl); (case kD => decide +kernel); (case c2 => exact rfl); (case c3 => exact rfl); (case c4 => exact rfl); k_whole; intro g' L' h' tk' cells' FG' F' N' Y' B' X' T' l1; (try k_lt l1); k_cells Y'; (try simp only [List.cons_append, List.nil_append] at N'); (try dsimp only); (try k_lift B'); (try k_fold)))
local macro_rules | `(tactic| walk_at "eval ListComp") => `(tactic| (k_here; k_dflt (refine ListComp_G (F₀ := by k_asm) (by with_unfolding_all rfl) (by decide) (by rfl) (by decide) (by rfl) ?_)))

local macro_rules | `(tactic| walk_at "SrcG") => `(tactic| (k_here; k_dflt (first
  | (refine SrcG.range (n := 1) (by rfl) (by k_asm) (by k_asm) (by assumption) (by decide) (by decide) (by decide) ?_)
  | (refine SrcG.range (n := 2) (by rfl) (by k_asm) (by k_asm) (by assumption) (by decide) (by decide) (by decide) ?_)
  | (refine SrcG.range (n := 4) (by rfl) (by k_asm) (by k_asm) (by assumption) (by decide) (by decide) (by decide) ?_)); intro g'; (refine' kcf_step _ (fun k' t' I' oI' C' oC' D' m' ys' h' tk' E' hk' hC' hx' F' N' off' ne' hMark' => ?_) ?_); (all_goals (try (simp only [LCg.Off3, and_true] at off'))); (all_goals (try (have hkb := mem_down hk'; obtain ⟨hkb0, hkb1⟩ := hkb))); kcf_last))
theorem octets_in {i : Int} {n : Nat} (hn : n ≤ 4) : KBa.In (List.map (fun k' => if 0 ≤ k' ∧ k' < (n : Int) then Builtin.bitAnd (Int.fdiv i (2 ^ Int.toNat (8 * k'))) 255 else k') (rangeInts ((n : Int) - 1) (-1) n)) := by
  intro x hx
  obtain ⟨k, hk, rfl⟩ := List.mem_map.mp hx
  obtain ⟨h0, h1⟩ := mem_down hk
  simp only [bitAnd_m8]
  split <;> omega
theorem put_number_c {i : Int} {t u : Tok} {k : Nat} (hk8 : k = 1 ∨ k = 2 ∨ k = 4) (B : Below A₀ base outer h₀) (F : Fr h₀ L s.heap m) (X : (hd.heap_39 w.params).In h₀) (N : News h₀ L s.heap news) (T : Top hd.view_39 LW mean mg mb h₀) (hk : cs.kind = .function)
    (hdp : dp + 1 < recursionLimit) (h0 : 0 ≤ i) (h1 : i < 2 ^ (8 * k))
    (ret : ∀ b t h' tk', Array.size b = k → Fr h₀ L h' m → News h₀ L h' news → Q (.bytes b t) { s with heap := h', toks := tk' }) :
    wpAny (model Prg w) (ktrTop dp un gd cn cs L a ccd cl outer) (call (.ref 114) [.int i t, .int k u]) Q E s := by
  revert X; unfold Prg; k_fill; w_top off; intro X
  rcases hk8 with rfl | rfl | rfl
  all_goals (
    refine wpAny_call ?_
    try have h1' : i < 2 ^ 8 := h1
    try have h1' : i < 2 ^ 16 := h1
    try have h1' : i < 2 ^ 32 := h1
    k_dflt cell_enter
    k_steps
    rename IntsAre _ _ => hI
    refine KBa.make_K (by k_asm) (by k_asm) (by rfl) (by k_dflt kba_isList) hI (octets_in (by decide)) ?_ ?_
    · rw [List.length_map, rangeInts_length]; decide
    · intro h' t' k' F' N' hIn
      k_steps
      rename Fr _ _ _ _ => F₂; rename News _ _ _ _ => N₂
      exact ret _ _ _ _ (by rw [byteArr_size, List.length_map, rangeInts_length]) F₂ fun p hp => N₂ p (List.mem_cons_of_mem _ (List.mem_cons_of_mem _ hp)))

theorem put_u8_c {i : Int} {t : Tok} (B : Below A₀ base outer h₀) (F : Fr h₀ L s.heap m) (X : (hd.heap_39 w.params).In h₀) (N : News h₀ L s.heap news) (T : Top hd.view_39 LW mean mg mb h₀) (hk : cs.kind = .function)
    (hdp : dp + 2 < recursionLimit) (h0 : 0 ≤ i) (h1 : i < 256)
    (ret : ∀ b t h' tk', Array.size b = 1 → Fr h₀ L h' m → News h₀ L h' news → Q (.bytes b t) { s with heap := h', toks := tk' }) :
    wpAny (model Prg w) (ktrTop dp un gd cn cs L a ccd cl outer) (call (.ref 121) [.int i t]) Q E s := by
  revert X; unfold Prg; k_fill; w_top off; intro X
  refine wpAny_call ?_
  k_dflt cell_enter
  iterate 12 (first | (k_unfold; (try dsimp only)) | (k_end; wrow_close) | walk1 | (dsimp only; walk1) | (leave1; walk_say "STEP leave1"; try dsimp only))
  k_dflt (refine' put_number_c (k := 1) (by decide) ?k1 ?k2 ?k3 ?k4 ?k5 ?kK ?kd h0 h1 ?_; (case k1 => k_asm); (case k2 => k_asm); (case k3 => k_asm); (case k4 => k_asm); (case k5 => k_asm); (case kK => exact rfl); (case kd => ktr_room))
  intro b t h' tk' hb F' N'
  (try k_fold)
  k_steps
  rename Fr _ _ _ _ => F₂; rename News _ _ _ _ => N₂
  exact ret _ _ _ _ hb F₂ N₂
theorem put_u16_c {i : Int} {t : Tok} (B : Below A₀ base outer h₀) (F : Fr h₀ L s.heap m) (X : (hd.heap_39 w.params).In h₀) (N : News h₀ L s.heap news) (T : Top hd.view_39 LW mean mg mb h₀) (hk : cs.kind = .function)
    (hdp : dp + 2 < recursionLimit) (h0 : 0 ≤ i) (h1 : i < 65536)
    (ret : ∀ b t h' tk', Array.size b = 2 → Fr h₀ L h' m → News h₀ L h' news → Q (.bytes b t) { s with heap := h', toks := tk' }) :
    wpAny (model Prg w) (ktrTop dp un gd cn cs L a ccd cl outer) (call (.ref 128) [.int i t]) Q E s := by
  revert X; unfold Prg; k_fill; w_top off; intro X
  refine wpAny_call ?_
  k_dflt cell_enter
  iterate 12 (first | (k_unfold; (try dsimp only)) | (k_end; wrow_close) | walk1 | (dsimp only; walk1) | (leave1; walk_say "STEP leave1"; try dsimp only))
  k_dflt (refine' put_number_c (k := 2) (by decide) ?k1 ?k2 ?k3 ?k4 ?k5 ?kK ?kd h0 h1 ?_; (case k1 => k_asm); (case k2 => k_asm); (case k3 => k_asm); (case k4 => k_asm); (case k5 => k_asm); (case kK => exact rfl); (case kd => ktr_room))
  intro b t h' tk' hb F' N'
  (try k_fold)
  k_steps
  rename Fr _ _ _ _ => F₂; rename News _ _ _ _ => N₂
  exact ret _ _ _ _ hb F₂ N₂
theorem put_u32_c {i : Int} {t : Tok} (B : Below A₀ base outer h₀) (F : Fr h₀ L s.heap m) (X : (hd.heap_39 w.params).In h₀) (N : News h₀ L s.heap news) (T : Top hd.view_39 LW mean mg mb h₀) (hk : cs.kind = .function)
    (hdp : dp + 2 < recursionLimit) (h0 : 0 ≤ i) (h1 : i < 4294967296)
    (ret : ∀ b t h' tk', Array.size b = 4 → Fr h₀ L h' m → News h₀ L h' news → Q (.bytes b t) { s with heap := h', toks := tk' }) :
    wpAny (model Prg w) (ktrTop dp un gd cn cs L a ccd cl outer) (call (.ref 142) [.int i t]) Q E s := by
  revert X; unfold Prg; k_fill; w_top off; intro X
  refine wpAny_call ?_
  k_dflt cell_enter
  iterate 12 (first | (k_unfold; (try dsimp only)) | (k_end; wrow_close) | walk1 | (dsimp only; walk1) | (leave1; walk_say "STEP leave1"; try dsimp only))
  k_dflt (refine' put_number_c (k := 4) (by decide) ?k1 ?k2 ?k3 ?k4 ?k5 ?kK ?kd h0 h1 ?_; (case k1 => k_asm); (case k2 => k_asm); (case k3 => k_asm); (case k4 => k_asm); (case k5 => k_asm); (case kK => exact rfl); (case kd => ktr_room))
  intro b t h' tk' hb F' N'
  (try k_fold)
  k_steps
  rename Fr _ _ _ _ => F₂; rename News _ _ _ _ => N₂
  exact ret _ _ _ _ hb F₂ N₂
end Mine
end
section
open PySem PySem.W PyProof.Rows
set_option maxRecDepth 100000
set_option maxHeartbeats 8000000
namespace Mine
local macro_rules | `(tactic| k_room) => `(tactic| ktr_room)
local macro_rules | `(tactic| k_units) => `(tactic| ktr_units)
variable {w : World} {mean : ExcName → Option Value} {mg mb : Str → Option Value} {dp un : Nat} {gd : Option (List Code)} {cn : Str} {cs : Scope} {a : Addr} {ccd : Value} {cl : List (Str × Addr)} {outer : List Env} {A₀ : Around} {base h₀ : Heap} {L : Addr} {m : Str → Option Value} {news : List (Addr × Obj)} {s : Shared} {Q E : Value → Shared → Prop}
local macro_rules | `(tactic| walk_at "exec For Tuple Call cons nil") => `(tactic| (k_here; (rename Fr _ _ _ _ => lF'); (with_unfolding_all refine' For_turns lF' ?_; k_whole)))

theorem pair_off {news : List (Addr × Obj)} {I : Addr} {o o' : Obj} (h : ∀ p ∈ news, p.1 < I) : ∀ p ∈ news, ∀ q ∈ [(I + 1, o), (I, o')], p.1 ≠ q.1 := by
  intro p hp q hq
  have hlt : @LT.lt Nat _ p.1 I := h p hp
  rcases List.mem_cons.mp hq with rfl | hq
  · exact Nat.ne_of_lt (Nat.lt_succ_of_lt hlt)
  · rw [List.mem_singleton.mp hq]; exact Nat.ne_of_lt hlt
theorem sum_step {x : Int} (h0 : 0 ≤ x) (h1 : x ≤ 130815) (_ : True := trivial) : 0 ≤ Builtin.bitAnd x 65535 + Int.fdiv x (2 ^ Int.toNat 16) ∧ Builtin.bitAnd x 65535 + Int.fdiv x (2 ^ Int.toNat 16) ≤ 65535 := by
  rw [bitAnd_m16, show ((2 : Int) ^ Int.toNat 16) = 65536 from by decide, Int.fdiv_eq_ediv_of_nonneg _ (by decide)]
  omega
theorem internet_sum_c {b : Array UInt8} {t : Tok} (B : Below A₀ base outer h₀) (F : Fr h₀ L s.heap m) (X : (hd.heap_39 w.params).In h₀) (N : News h₀ L s.heap news) (T : Top hd.view_39 LW mean mg mb h₀) (hk : cs.kind = .function)
    (hdp : dp + 1 < recursionLimit)
    (ret : ∀ n t h' tk', 0 ≤ n → n ≤ 65535 → Fr h₀ L h' m → News h₀ L h' news → Q (.int n t) { s with heap := h', toks := tk' }) :
    wpAny (model Prg w) (ktrTop dp un gd cn cs L a ccd cl outer) (call (.ref 77) [.bytes b t]) Q E s := by
  revert X; unfold Prg; k_fill; w_top off; intro X
  refine wpAny_call ?_
  k_dflt cell_enter
  k_steps
  refine enum_bytes (by rfl) (by assumption) (by assumption) fun I hI => items_one (x := "total") (fun n => 0 ≤ n ∧ n ≤ 65535) ?_ ?_ _ _ _ 0 _ rfl ⟨by decide, by decide⟩
  · intro i c m₁ n₁ t₁ T₁ ti tc h₁ tk₁ o₁ o₁' hP hT F₁ ho ho' N₁
    obtain ⟨hP0, hP1⟩ := hP
    k_fold
    k_steps
    all_goals (rename Fr _ _ _ _ => F₂; rename News _ _ _ _ => N₂; refine ⟨_, _, _, news, rfl, F₂, N₂, pair_off hI, rfl, _, _, rfl, ?_⟩)
    · exact sum_step (by have := c.toNat_lt; omega) (by have := c.toNat_lt; omega)
    · exact sum_step (by have := c.toNat_lt; omega) (by have := c.toNat_lt; omega)
  · intro n₁ t₁ m₁ h₁ tk₁ hP F₁ N₁
    obtain ⟨hP0, hP1⟩ := hP
    (try k_fold)
    k_steps
    rename Fr _ _ _ _ => F₂; rename News _ _ _ _ => N₂
    exact ret _ _ _ _ (by omega) (by omega) F₂ N₂
end Mine
end
section
open PySem PySem.W PyProof.Rows
set_option maxRecDepth 100000
set_option maxHeartbeats 1200000
namespace Mine
local macro_rules | `(tactic| k_room) => `(tactic| ktr_room)
local macro_rules | `(tactic| k_units) => `(tactic| ktr_units)
variable {w : World} {mean : ExcName → Option Value} {mg mb : Str → Option Value} {dp un : Nat} {gd : Option (List Code)} {cn : Str} {cs : Scope} {a : Addr} {ccd : Value} {cl : List (Str × Addr)} {outer : List Env} {A₀ : Around} {base h₀ : Heap} {L : Addr} {m : Str → Option Value} {news : List (Addr × Obj)} {s : Shared} {Q E : Value → Shared → Prop}
local macro_rules | `(tactic| walk_at "call ref") => `(tactic| (k_here; k_dflt (first | (refine' put_u8_c ?k1 ?k2 ?k3 ?k4 ?k5 ?kK ?kd ?h0 ?h1 ?_; (case k1 => k_asm); (case k2 => k_asm); (case k3 => k_asm); (case k4 => k_asm); (case k5 => k_asm); (case kK => first | exact rfl | assumption); (case kd => ktr_room); (case h0 => first | omega | decide); (case h1 => first | omega | decide)) | (refine' put_u16_c ?k1 ?k2 ?k3 ?k4 ?k5 ?kK ?kd ?h0 ?h1 ?_; (case k1 => k_asm); (case k2 => k_asm); (case k3 => k_asm); (case k4 => k_asm); (case k5 => k_asm); (case kK => first | exact rfl | assumption); (case kd => ktr_room); (case h0 => first | omega | decide); (case h1 => first | omega | decide)) | (refine' put_u32_c ?k1 ?k2 ?k3 ?k4 ?k5 ?kK ?kd ?h0 ?h1 ?_; (case k1 => k_asm); (case k2 => k_asm); (case k3 => k_asm); (case k4 => k_asm); (case k5 => k_asm); (case kK => first | exact rfl | assumption); (case kd => ktr_room); (case h0 => first | omega | decide); (case h1 => first | omega | decide))); (intro b' t' h' tk' hb' F' N'); (try dsimp only); (try k_fold)))
local macro_rules | `(tactic| walk_at "eval ListComp") => `(tactic| (k_here; k_dflt (refine ListComp_G (F₀ := by k_asm) (by with_unfolding_all rfl) (by decide) (by rfl) (by decide) (by rfl) ?_)))
theorem add_sized {prog : Program} {w : World} {A : Around} {E : Value → Shared → Prop} {s : Shared} {b c : Array UInt8} {t u : Tok} {p q : Nat} {Q : Value → Shared → Prop} (hb : b.size = p) (hc : c.size = q) (hz : p + q ≤ 16777216)
    (h : ∀ d t' k, Array.size d = p + q → Q (.bytes d t') { s with toks := k }) : wpAny (model prog w) A (binaryOp .Add (.bytes b t) (.bytes c u)) Q E s :=
  KBy.add_bytes (by rw [hb, hc]; exact hz) fun t' k => h _ t' k (by rw [Array.size_append, hb, hc])
local macro_rules | `(tactic| walk_at "binaryOp Add bytes bytes") => `(tactic| (k_here; k_dflt (refine add_sized (by assumption) (by assumption) (by omega) ?_); (intro d' t' k' hd'); (try dsimp only)))
local macro_rules | `(tactic| walk_at "getMethod bytes") => `(tactic| (k_here; (with_reducible refine join_method ?_)))
local macro_rules | `(tactic| walk_at "call builtin:bytes.join") => `(tactic| (k_here; k_dflt (refine join_call (by kba_isList) (by assumption) (by omega) ?_); (intro b' t' k' hb'); (try dsimp only)))
local macro_rules | `(tactic| walk_at "SrcG") => `(tactic| (k_here; k_dflt (refine SrcG.tuple (by rfl) (by k_asm) (by k_asm) (by k_mem) (by rfl) (by rfl) (by (rw [sizeLine_eq, List.size_toArray]; have := IntsAre.length (by assumption); omega)) ?_); intro g'; (refine comp_bytes (sz := 4) (by assumption) (fun k' t' I' oI' C' oC' D' m' ys' h' tk' E' hk' hC' hx' F' N' off' ne' => ?_) (fun ys' hys' hlys' => ?_)); (all_goals (try (have hkb := (by assumption : ∀ n ∈ (_ : List Int), (0 : Int) ≤ n ∧ n < 4294967296) _ hk'; obtain ⟨hkb0, hkb1⟩ := hkb))); kcf_last))
local macro_rules | `(tactic| walk_at "CompEnd") => `(tactic| (refine LCg.CompEnd.intro (by assumption) (by assumption) _ (by kcf_all) (by assumption) (by assumption) ⟨rfl, _, _, rfl, by assumption⟩))
theorem put_hello_c {p k : Addr} {t0 t1 t2 t3 t4 t5 t6 t7 : Tok} {n₁ n₂ : Nat} {vs : List Value} {ns : List Int} (hp : (p, ({ cls := .type "tuple", data := .seq #[.str (Str.ofString "hello") t0, .int 24 t1, .int 10 t2, .int 2 t3, .int 1 t4, .int 40 t5, .int 0 t6, .int 0 t7, .ref k] n₁ } : Obj)) ∈ news) (hkm : (k, ({ cls := .type "tuple", data := .seq vs.toArray n₂ } : Obj)) ∈ news) (hi : IntsAre vs ns) (hin : ∀ n ∈ ns, 0 ≤ n ∧ n < 4294967296) (hlen : ns.length ≤ 12)
    (B : Below A₀ base outer h₀) (F : Fr h₀ L s.heap m) (X : (hd.heap_39 w.params).In h₀) (N : News h₀ L s.heap news) (T : Top hd.view_39 LW mean mg mb h₀) (hk : cs.kind = .function)
    (hdp : dp + 3 < recursionLimit)
    (ret : ∀ b t h' tk', Array.size b = 20 + 4 * ns.length → Fr h₀ L h' m → News h₀ L h' news → Q (.bytes b t) { s with heap := h', toks := tk' }) :
    wpAny (model Prg w) (ktrTop dp un gd cn cs L a ccd cl outer) (call (.ref 200) [.ref p]) Q E s := by
  revert X; unfold Prg; k_fill; w_top off; intro X
  refine wpAny_call ?_
  k_dflt cell_enter
  k_steps
  rename Fr _ _ _ _ => F₂; rename News _ _ _ _ => N₂
  exact ret _ _ _ _ (by omega) F₂ (fun p hp => N₂ p (List.mem_cons_of_mem _ hp))
end Mine
end
section
open PySem PySem.W PyProof.Rows
set_option maxRecDepth 100000
set_option maxHeartbeats 1200000
namespace Mine
local macro_rules | `(tactic| k_room) => `(tactic| ktr_room)
local macro_rules | `(tactic| k_units) => `(tactic| ktr_units)
variable {w : World} {mean : ExcName → Option Value} {mg mb : Str → Option Value} {dp un : Nat} {gd : Option (List Code)} {cn : Str} {cs : Scope} {a : Addr} {ccd : Value} {cl : List (Str × Addr)} {outer : List Env} {A₀ : Around} {base h₀ : Heap} {L : Addr} {m : Str → Option Value} {news : List (Addr × Obj)} {s : Shared} {Q E : Value → Shared → Prop}
local macro_rules | `(tactic| walk_at "call ref") => `(tactic| (k_here; k_dflt (refine' internet_sum_c ?k1 ?k2 ?k3 ?k4 ?k5 ?kK ?kd ?_; (case k1 => k_asm); (case k2 => k_asm); (case k3 => k_asm); (case k4 => k_asm); (case k5 => k_asm); (case kK => first | exact rfl | assumption); (case kd => ktr_room)); (intro n' t' h' tk' hn0' hn1' F' N'); (try dsimp only); (try k_fold)))
local macro_rules | `(tactic| walk_at "binaryOp Add bytes bytes") => `(tactic| (k_here; k_dflt (refine add_le (by assumption) (by assumption) (by omega) ?_); (intro d' t' k' hd'); (try dsimp only)))
local macro_rules | `(tactic| walk_at "call type:bytes") => `(tactic| (k_here; k_dflt (refine bytes_count (n := 2) (by rfl) (by decide) ?_); (intro b' t' k' hb'); (replace hb' := Nat.le_of_eq hb'); (try dsimp only)))
local macro_rules | `(tactic| walk_at "subscriptTail") => `(tactic| (k_here; (with_reducible show wpAny _ _ (subscriptTail _ (Expr.Slice _ _ none _) (Value.bytes _ _) (Value.ref _)) _ _ _); (with_reducible rename Fr _ _ _ _ => F'); (with_reducible rename News _ _ _ _ => N'); (refine slice_le (s := ⟨_, _, _, _, _⟩) F' N' (by assumption) (by omega) (by constructor) (by constructor) ?_); intro c' h' t' k' hc' F' N'; (try dsimp only)))
theorem packet_sum_c {b : Array UInt8} {t : Tok} (hb : b.size ≤ 1000) (B : Below A₀ base outer h₀) (F : Fr h₀ L s.heap m) (X : (hd.heap_39 w.params).In h₀) (N : News h₀ L s.heap news) (T : Top hd.view_39 LW mean mg mb h₀) (hk : cs.kind = .function)
    (hdp : dp + 2 < recursionLimit)
    (ret : ∀ n t h' tk', 0 ≤ n → n ≤ 65535 → Fr h₀ L h' m → News h₀ L h' news → Q (.int n t) { s with heap := h', toks := tk' }) :
    wpAny (model Prg w) (ktrTop dp un gd cn cs L a ccd cl outer) (call (.ref 219) [.bytes b t]) Q E s := by
  revert X; unfold Prg; k_fill; w_top off; intro X
  refine wpAny_call ?_
  k_dflt cell_enter
  k_steps
  rename Fr _ _ _ _ => F₂; rename News _ _ _ _ => N₂
  exact ret _ _ _ _ (by assumption) (by assumption) F₂ N₂
end Mine
end
section
open PySem PySem.W PyProof.Rows
set_option maxRecDepth 100000
set_option maxHeartbeats 1200000
namespace Mine
local macro_rules | `(tactic| k_room) => `(tactic| ktr_room)
local macro_rules | `(tactic| k_units) => `(tactic| ktr_units)
variable {w : World} {mean : ExcName → Option Value} {mg mb : Str → Option Value} {dp un : Nat} {gd : Option (List Code)} {cn : Str} {cs : Scope} {a : Addr} {ccd : Value} {cl : List (Str × Addr)} {outer : List Env} {A₀ : Around} {base h₀ : Heap} {L : Addr} {m : Str → Option Value} {news : List (Addr × Obj)} {s : Shared} {Q E : Value → Shared → Prop}
local macro_rules | `(tactic| walk_at "call ref") => `(tactic| (k_here; k_dflt (first | (refine' put_u8_c ?k1 ?k2 ?k3 ?k4 ?k5 ?kK ?kd ?h0 ?h1 ?_; (case k1 => k_asm); (case k2 => k_asm); (case k3 => k_asm); (case k4 => k_asm); (case k5 => k_asm); (case kK => first | exact rfl | assumption); (case kd => ktr_room); (case h0 => first | omega | decide); (case h1 => first | omega | decide)) | (refine' put_u16_c ?k1 ?k2 ?k3 ?k4 ?k5 ?kK ?kd ?h0 ?h1 ?_; (case k1 => k_asm); (case k2 => k_asm); (case k3 => k_asm); (case k4 => k_asm); (case k5 => k_asm); (case kK => first | exact rfl | assumption); (case kd => ktr_room); (case h0 => first | omega | decide); (case h1 => first | omega | decide)) | (refine' put_u32_c ?k1 ?k2 ?k3 ?k4 ?k5 ?kK ?kd ?h0 ?h1 ?_; (case k1 => k_asm); (case k2 => k_asm); (case k3 => k_asm); (case k4 => k_asm); (case k5 => k_asm); (case kK => first | exact rfl | assumption); (case kd => ktr_room); (case h0 => first | omega | decide); (case h1 => first | omega | decide))); (intro b' t' h' tk' hb' F' N'); (try dsimp only); (try k_fold)))
local macro_rules | `(tactic| walk_at "call ref") => `(tactic| (k_here; k_dflt (refine' put_hello_c ?a1 ?a2 ?a3 ?a4 ?a5 ?k1 ?k2 ?k3 ?k4 ?k5 ?kK ?kd ?_; (case a1 => k_mem); (case a2 => k_mem); (case a3 => assumption); (case a4 => assumption); (case a5 => assumption); (case k1 => k_asm); (case k2 => k_asm); (case k3 => k_asm); (case k4 => k_asm); (case k5 => k_asm); (case kK => first | exact rfl | assumption); (case kd => ktr_room)); (intro b' t' h' tk' hb' F' N'); (try dsimp only); (try k_fold)))
local macro_rules | `(tactic| walk_at "call ref") => `(tactic| (k_here; k_dflt (refine' packet_sum_c ?a1 ?k1 ?k2 ?k3 ?k4 ?k5 ?kK ?kd ?_; (case a1 => omega); (case k1 => k_asm); (case k2 => k_asm); (case k3 => k_asm); (case k4 => k_asm); (case k5 => k_asm); (case kK => first | exact rfl | assumption); (case kd => ktr_room)); (intro n' t' h' tk' hn0' hn1' F' N'); (try dsimp only); (try k_fold)))
local macro_rules | `(tactic| walk_at "call type:bytes") => `(tactic| (k_here; k_dflt (refine bytes_count (n := 8) (by rfl) (by decide) ?_); (intro b' t' k' hb'); (try dsimp only)))
local macro_rules | `(tactic| walk_at "binaryOp Add bytes bytes") => `(tactic| (k_here; k_dflt (refine add_sized (by first | assumption | exact (show Array.size _ = 0 from rfl)) (by assumption) (by omega) ?_); (intro d' t' k' hd'); (try dsimp only)))
theorem put_packet_c {p k r : Addr} {u0 u1 u2 : Tok} {n₃ : Nat} (hr : (r, ({ cls := .type "tuple", data := .seq #[.int 1 u0, .int 70 u1, .int 3 u2, .ref p] n₃ } : Obj)) ∈ news) {t0 t1 t2 t3 t4 t5 t6 t7 : Tok} {n₁ n₂ : Nat} {vs : List Value} {ns : List Int} (hp : (p, ({ cls := .type "tuple", data := .seq #[.str (Str.ofString "hello") t0, .int 24 t1, .int 10 t2, .int 2 t3, .int 1 t4, .int 40 t5, .int 0 t6, .int 0 t7, .ref k] n₁ } : Obj)) ∈ news) (hkm : (k, ({ cls := .type "tuple", data := .seq vs.toArray n₂ } : Obj)) ∈ news) (hi : IntsAre vs ns) (hin : ∀ n ∈ ns, 0 ≤ n ∧ n < 4294967296) (hlen : ns.length ≤ 12)
    (B : Below A₀ base outer h₀) (F : Fr h₀ L s.heap m) (X : (hd.heap_39 w.params).In h₀) (N : News h₀ L s.heap news) (T : Top hd.view_39 LW mean mg mb h₀) (hk : cs.kind = .function)
    (hdp : dp + 5 < recursionLimit)
    (ret : ∀ b t h' tk', Array.size b = 44 + 4 * ns.length → Fr h₀ L h' m → News h₀ L h' news → Q (.bytes b t) { s with heap := h', toks := tk' }) :
    wpAny (model Prg w) (ktrTop dp un gd cn cs L a ccd cl outer) (call (.ref 226) [.ref r, .none]) Q E s := by
  revert X; unfold Prg; k_fill; w_top off; intro X
  refine wpAny_call ?_
  k_dflt cell_enter
  k_steps
  rename Fr _ _ _ _ => F₂; rename News _ _ _ _ => N₂
  exact ret _ _ _ _ (by omega) F₂ N₂
end Mine
end
section
open PySem PySem.W PyProof.Rows
set_option maxRecDepth 100000
set_option maxHeartbeats 1200000
namespace Mine
local macro_rules | `(tactic| k_room) => `(tactic| ktr_room)
local macro_rules | `(tactic| k_units) => `(tactic| ktr_units)
variable {w : World} {mean : ExcName → Option Value} {mg mb : Str → Option Value} {dp un : Nat} {gd : Option (List Code)} {cn : Str} {cs : Scope} {a : Addr} {ccd : Value} {cl : List (Str × Addr)} {outer : List Env} {A₀ : Around} {base h₀ : Heap} {L : Addr} {m : Str → Option Value} {news : List (Addr × Obj)} {s : Shared} {Q E : Value → Shared → Prop}

local macro_rules | `(tactic| k_all) => `(tactic| assumption)
theorem draw_c {p q : Addr} {j : Int} {tj tm : Tok} {M : Int} {n₁ n₂ : Nat} {vs : List Value} {ns : List Int} {rest : List (Addr × Obj)} (hoff : ∀ x ∈ rest, x.1 ≠ p) (hqp : @Ne Nat q p) (hi : IntsAre vs ns) (hj0 : 0 ≤ j) (hj1 : j ≤ 100) (hM0 : 0 < M) (hM1 : M ≤ 2000) (hlen : ns.length ≤ 63)
    (B : Below A₀ base outer h₀) (F : Fr h₀ L s.heap m) (X : (hd.heap_39 w.params).In h₀) (N : News h₀ L s.heap ((p, W.listOf #[.ref q, .int j tj] n₁) :: (q, W.listOf vs.toArray n₂) :: rest)) (T : Top hd.view_39 LW mean mg mb h₀) (hk : cs.kind = .function)
    (hdp : dp + 2 < recursionLimit)
    (ret : ∀ v t t' h' tk', 0 ≤ v → v < M → Fr h₀ L h' m → News h₀ L h' ((p, W.listOf #[.ref q, .int (j + 1) t'] n₁) :: (q, W.listOf vs.toArray n₂) :: rest) → Q (.int v t) { s with heap := h', toks := tk' }) :
    wpAny (model Prg w) (ktrTop dp un gd cn cs L a ccd cl outer) (call (.ref 240) [.ref p, .int M tm]) Q E s := by
  revert X; unfold Prg; k_fill; w_top off; intro X
  refine wpAny_call ?_
  k_dflt cell_enter
  k_steps
  all_goals (rename Fr _ _ _ _ => F₂; rename News _ _ _ _ => N₂)
  · exact ret _ _ _ _ _ (fmod_lo _ hM0) (fmod_hi _ hM0) F₂ N₂
  · exact ret _ _ _ _ _ (fmod_lo _ hM0) (fmod_hi _ hM0) F₂ N₂
/- the same, the pool standing anywhere in the ledger -/
theorem draw_u {p q : Addr} {j : Int} {tj tm : Tok} {M : Int} {n₁ n₂ : Nat} {vs : List Value} {ns : List Int} {news : List (Addr × Obj)} {news' : Tok → List (Addr × Obj)} (U : ∀ t', Upd p (W.listOf #[.ref q, .int j tj] n₁) (W.listOf #[.ref q, .int (j + 1) t'] n₁) news (news' t')) (hq : (q, W.listOf vs.toArray n₂) ∈ news) (hqp : @Ne Nat q p) (hi : IntsAre vs ns) (hj0 : 0 ≤ j) (hj1 : j ≤ 100) (hM0 : 0 < M) (hM1 : M ≤ 2000) (hlen : ns.length ≤ 63)
    (B : Below A₀ base outer h₀) (F : Fr h₀ L s.heap m) (X : (hd.heap_39 w.params).In h₀) (N : News h₀ L s.heap news) (T : Top hd.view_39 LW mean mg mb h₀) (hk : cs.kind = .function)
    (hdp : dp + 2 < recursionLimit)
    (ret : ∀ v t t' h' tk', 0 ≤ v → v < M → Fr h₀ L h' m → News h₀ L h' (news' t') → Q (.int v t) { s with heap := h', toks := tk' }) :
    wpAny (model Prg w) (ktrTop dp un gd cn cs L a ccd cl outer) (call (.ref 240) [.ref p, .int M tm]) Q E s := by
  have hp0 : (p, W.listOf #[.ref q, .int j tj] n₁) ∈ news := by
    obtain ⟨pre, post, e, _⟩ := (U 0).split
    rw [e]; exact List.mem_append.mpr (.inr (.head _))
  refine draw_c (tj := tj) (n₁ := n₁) (n₂ := n₂) (vs := vs) (rest := news.filter fun x => decide (@Ne Nat x.1 p)) (fun x hx => ?_) hqp hi hj0 hj1 hM0 hM1 hlen B F X (fun x hx => ?_) T hk hdp fun v t t' h' tk' h0 h1 F' N' => ret v t t' h' tk' h0 h1 F' fun x hx => N' x ?_
  · exact of_decide_eq_true (List.mem_filter.mp hx).2
  · rcases List.mem_cons.mp hx with rfl | hx
    · exact N _ hp0
    · rcases List.mem_cons.mp hx with rfl | hx
      · exact N _ hq
      · exact N _ (List.mem_filter.mp hx).1
  · obtain ⟨pre, post, e, e', h1, h2⟩ := (U t').split
    rw [e'] at hx
    rcases List.mem_append.mp hx with hx | hx
    · exact .tail _ (.tail _ (List.mem_filter.mpr ⟨by rw [e]; exact List.mem_append.mpr (.inl hx), decide_eq_true (h1 x hx)⟩))
    · rcases List.mem_cons.mp hx with rfl | hx
      · exact .head _
      · exact .tail _ (.tail _ (List.mem_filter.mpr ⟨by rw [e]; exact List.mem_append.mpr (.inr (.tail _ hx)), decide_eq_true (h2 x hx)⟩))
end Mine
end
section
open PySem PySem.W PyProof.Rows
set_option maxRecDepth 100000
set_option maxHeartbeats 1200000
namespace Mine
local macro_rules | `(tactic| k_room) => `(tactic| ktr_room)
local macro_rules | `(tactic| k_units) => `(tactic| ktr_units)
variable {w : World} {mean : ExcName → Option Value} {mg mb : Str → Option Value} {dp un : Nat} {gd : Option (List Code)} {cn : Str} {cs : Scope} {a : Addr} {ccd : Value} {cl : List (Str × Addr)} {outer : List Env} {A₀ : Around} {base h₀ : Heap} {L : Addr} {m : Str → Option Value} {news : List (Addr × Obj)} {s : Shared} {Q E : Value → Shared → Prop}


theorem ne_of_all_lt {d : Addr} {l : List (Addr × Obj)} (h : ∀ p ∈ l, p.1 < d) : ∀ p ∈ l, p.1 ≠ d := fun p hp => Nat.ne_of_lt (h p hp)
theorem ne_of_allLt {d : Addr} {l : List (Addr × Obj)} (h : AllLt d l) : ∀ p ∈ l, p.1 ≠ d := fun p hp => Nat.ne_of_lt (ktn_ltOf h p hp)
theorem ne_of_all_lt2 {d e : Addr} {l : List (Addr × Obj)} (h : ∀ p ∈ l, p.1 < d) (he : @LT.lt Nat _ d e) : ∀ p ∈ l, p.1 ≠ e := fun p hp => Nat.ne_of_lt (Nat.lt_trans (h p hp) he)
local macro_rules | `(tactic| k_all) => `(tactic| first | exact ne_of_all_lt (by assumption) | exact ne_of_allLt (by assumption))
local macro_rules | `(tactic| k_mem) => `(tactic| first | assumption | exact List.mem_cons_self | (refine List.mem_cons_of_mem _ ?_; k_mem))
local macro_rules | `(tactic| walk_at "getMethod ref") => `(tactic| (k_here; k_dflt (refine' ds_method ?N ?p ?d ?_; (case N => k_asm); (case p => k_mem); (case d => assumption))))
local macro_rules | `(tactic| walk_at "callWith") => `(tactic| (k_here; (with_reducible refine' callWith_method1 ?_ ?cwe ?cwp); (case cwe => with_unfolding_all rfl); (case cwp => with_unfolding_all rfl)))
local macro_rules | `(tactic| walk_at "eval Dict") => `(tactic| (k_here; k_dflt (refine' kdn_str ?q ?F ?N ?b ?a ?l ?e ?n ?_; (case q => rfl); (case F => k_asm); (case N => first | k_asm | exact News.nil); (case b => exact Top.nolimit (by k_asm)); (case a => rfl); (case l => rfl); (case e => exact List.cons_ne_nil _ _); (case n => exact Nat.le_of_ble_eq_true rfl)); intro d' h' o' F' N' l1 lo' hd'; (try k_lt l1)))
local macro_rules | `(tactic| walk_at "KdnMade") => `(tactic| (k_here; k_dflt (refine' ds_made ?F ?N ?U ?d ?k ?n ?s ?_; (case F => k_asm); (case N => k_asm); (case U => k_updF); (case d => k_asm); (case k => rfl); (case n => exact of_decide_eq_true (by first | rfl | kernel_rfl!)); (case s => repeat' (first | exact PIs.nil | refine' PIs.cons ?_ ?_ | exact VIs.i | exact VIs.s | exact VIs.b | exact VIs.n | exact VIs.r))); (intro h' o' tk' F' N' hD'); (try dsimp only at N'); (try dsimp only)))
local macro_rules | `(tactic| walk_at "subscriptTail") => `(tactic| (k_here; (with_reducible show wpAny _ _ (subscriptTail _ _ (Value.ref _) (Value.str _ _)) _ _ _); k_dflt (refine' ds_item ?N ?p ?d ?e ?_; (case N => k_asm); (case p => k_mem); (case d => assumption); (case e => first | rfl | kernel_rfl)); (intro v' tk' hv'); (first | (obtain ⟨t', hv''⟩ := hv'; subst hv'') | (have hv'' : v' = _ := hv'; subst hv'')); (try dsimp only)))
local macro_rules | `(tactic| walk_at "setItem ref str") => `(tactic| (k_here; k_dflt (refine' ds_set ?F ?N ?U ?d ?v ?z ?e ?_; (case F => k_asm); (case N => k_asm); (case U => k_updF); (case d => assumption); (case v => first | exact VIs.i | exact VIs.s | exact VIs.b | exact VIs.n | exact VIs.r); (case z => exact Nat.le_of_ble_eq_true rfl); (case e => exact rfl)); (intro h' o' tk' F' N' hD'); (try dsimp only at N'); (try dsimp only)))
def lineSp : List (Str × VS) := [(Str.ofString "number", .int 1), (Str.ofString "kind", .str (Str.ofString "broadcast")), (Str.ofString "area", .int 3), (Str.ofString "stub", .bool false), (Str.ofString "address", .int 5), (Str.ofString "length", .int 24), (Str.ofString "cost", .int 1), (Str.ofString "priority", .int 1), (Str.ofString "hello", .int 10), (Str.ofString "dead", .int 40), (Str.ofString "resend", .int 5)]
def foundSp1 (l : Addr) : List (Str × VS) := [(Str.ofString "router", .int 70), (Str.ofString "state", .str (Str.ofString "down")), (Str.ofString "dr", .int 0), (Str.ofString "bdr", .int 0), (Str.ofString "dr_address", .int 0), (Str.ofString "bdr_address", .int 0), (Str.ofString "neighbours", .ref l), (Str.ofString "hello_at", .none), (Str.ofString "wait_until", .none), (Str.ofString "delay", .int 1)]
def foundSp2 (l : Addr) : List (Str × VS) := [(Str.ofString "router", .int 70), (Str.ofString "state", .str (Str.ofString "down")), (Str.ofString "dr", .int 0), (Str.ofString "bdr", .int 0), (Str.ofString "dr_address", .int 0), (Str.ofString "bdr_address", .int 0), (Str.ofString "neighbours", .ref l), (Str.ofString "hello_at", .none), (Str.ofString "wait_until", .none), (Str.ofString "delay", .int 1), (Str.ofString "number", .int 1), (Str.ofString "kind", .str (Str.ofString "broadcast")), (Str.ofString "area", .int 3), (Str.ofString "stub", .bool false), (Str.ofString "address", .int 5), (Str.ofString "length", .int 24), (Str.ofString "cost", .int 1), (Str.ofString "priority", .int 1), (Str.ofString "hello", .int 10), (Str.ofString "dead", .int 40), (Str.ofString "resend", .int 5)]
def ifaceSp (l : Addr) : List (Str × VS) := foundSp2 l ++ [(Str.ofString "options", .int 2)]
theorem smerge1 (l : Addr) : smerge [(Str.ofString "router", .int 70), (Str.ofString "state", .str (Str.ofString "down")), (Str.ofString "dr", .int 0), (Str.ofString "bdr", .int 0), (Str.ofString "dr_address", .int 0), (Str.ofString "bdr_address", .int 0), (Str.ofString "neighbours", .ref l)] [(Str.ofString "hello_at", .none), (Str.ofString "wait_until", .none), (Str.ofString "delay", .int 1)] = foundSp1 l := by kernel_rfl
theorem smerge2 (l : Addr) : smerge (foundSp1 l) lineSp = foundSp2 l := by kernel_rfl
theorem sput3 (l : Addr) : sput (foundSp2 l) (Str.ofString "options") (VS.int 2) = ifaceSp l := by kernel_rfl
theorem new_iface_c {c : Addr} {oc : Obj} {tr : Tok} (hc : (c, oc) ∈ news) (hoc : DictIs Prg w oc lineSp) (hlc : (c == sysModules) = false)
    (B : Below A₀ base outer h₀) (F : Fr h₀ L s.heap m) (X : (hd.heap_39 w.params).In h₀) (N : News h₀ L s.heap news) (T : Top hd.view_39 LW mean mg mb h₀) (hk : cs.kind = .function)
    (hdp : dp + 2 < recursionLimit)
    (ret : ∀ (d nl : Addr) o' h' tk', Fr h₀ L h' m → News h₀ L h' ((nl, W.listOf #[] 0) :: (d, o') :: news) → (∀ p ∈ news, p.1 < d) → @LT.lt Nat _ d nl → (d == sysModules) = false → DictIs PySem.Challenge.rw_rh0209_01.row.prog w o' (ifaceSp nl) → Q (.ref d) { s with heap := h', toks := tk' }) :
    wpAny (model Prg w) (ktrTop dp un gd cn cs L a ccd cl outer) (call (.ref 43) [.ref c, .int 70 tr]) Q E s := by
  revert X; unfold Prg; k_fill; w_top off; intro X
  refine wpAny_call ?_
  k_dflt cell_enter
  k_steps
  k_dflt (refine' ds_update (res := foundSp1 _) ?uF ?uN ?uU ?ud ?up ?ue ?ulo ?une ?usz ?uhe ?_)
  case uF => k_asm
  case uN => k_asm
  case uU => k_updF
  case ud => assumption
  case up => k_mem
  case ue => assumption
  case ulo => assumption
  case une => k_ne
  case usz => exact Nat.le_of_ble_eq_true rfl
  case uhe => exact smerge1 _
  intro h' o' F' N' hD'
  (try dsimp only at N')
  k_steps
  k_dflt (refine' ds_update (res := foundSp2 _) ?vF ?vN ?vU ?vd ?vp ?ve ?vlo ?vne ?vsz ?vhe ?_)
  case vF => k_asm
  case vN => k_asm
  case vU => k_updF
  case vd => assumption
  case vp => k_mem
  case ve => assumption
  case vlo => assumption
  case vne => exact Nat.ne_of_gt (by first | exact ktn_ltOf (by assumption) _ hc | (have hq := (by assumption : ∀ p ∈ news, p.1 < _) _ hc; exact hq))
  case vsz => exact Nat.le_of_ble_eq_true rfl
  case vhe => exact smerge2 _
  intro h' o' F' N' hD'
  (try dsimp only at N')
  k_steps
  rename Fr _ _ _ _ => F₂; rename News _ _ _ _ => N₂; rename DictIs _ _ _ _ => D₂
  rw [sput3] at D₂
  refine ret _ _ _ _ _ F₂ (fun p hp => N₂ p (List.mem_cons_of_mem _ hp)) (by assumption) (by omega) (by assumption) D₂
end Mine
end
section
open PySem PySem.W PyProof.Rows
set_option maxRecDepth 100000
set_option maxHeartbeats 1200000
namespace Mine
local macro_rules | `(tactic| k_room) => `(tactic| ktr_room)
local macro_rules | `(tactic| k_units) => `(tactic| ktr_units)
variable {w : World} {mean : ExcName → Option Value} {mg mb : Str → Option Value} {dp un : Nat} {gd : Option (List Code)} {cn : Str} {cs : Scope} {a : Addr} {ccd : Value} {cl : List (Str × Addr)} {outer : List Env} {A₀ : Around} {base h₀ : Heap} {L : Addr} {m : Str → Option Value} {news : List (Addr × Obj)} {s : Shared} {Q E : Value → Shared → Prop}


def statesL : List Str := [Str.ofString "down", Str.ofString "attempt", Str.ofString "init", Str.ofString "two_way", Str.ofString "exstart", Str.ofString "exchange", Str.ofString "loading", Str.ofString "full"]
theorem states_method {A : Around} {pl : Sem Bool} {Q : Value × List Value → Shared → Prop} (F : Fr h₀ L s.heap m) (X : (hd.heap_39 w.params).In h₀) (h : Q (.builtin "tuple.index", [.ref 22]) s) :
    wpAny (model PySem.Challenge.rw_rh0209_01.row.prog w) A (getMethod (.ref 22) (Str.ofString "index") pl) Q E s := by
  revert X; k_fill; intro X
  have X' := Frag.In.keeps X F.keep
  k_dflt (refine' tup_index_method X' ?k1 h; (case k1 => k_is))
theorem states_index {A : Around} {x : Str} {t : Tok} {j : Nat} {Q : Value → Shared → Prop} (F : Fr h₀ L s.heap m) (X : (hd.heap_39 w.params).In h₀) (hj : statesL[j]? = some x) (hno : ∀ m, m < j → statesL[m]? ≠ some x)
    (h : ∀ t' k', Q (.int (j : Int) t') { s with toks := k' }) : wpAny (model PySem.Challenge.rw_rh0209_01.row.prog w) A (call (.builtin "tuple.index") [.ref 22, .str x t]) Q E s := by
  revert X; k_fill; intro X
  have X' := Frag.In.keeps X F.keep
  k_dflt (refine' tup_index (tupK X' ?k1) ?k4 hj hno h; (case k1 => k_is); (case k4 => exact .cons _ _ (.cons _ _ (.cons _ _ (.cons _ _ (.cons _ _ (.cons _ _ (.cons _ _ (.cons _ _ .nil)))))))))
theorem init_no : ∀ m, m < 2 → statesL[m]? ≠ some (Str.ofString "init") := by decide +kernel
theorem place_here {x : Str} (h : x ∈ hereL) : ∃ j, statesL[j]? = some x ∧ (∀ m, m < j → statesL[m]? ≠ some x) ∧ 2 ≤ j := by
  have key : ∀ x ∈ hereL, ∃ j, j < 8 ∧ statesL[j]? = some x ∧ (∀ m, m < 8 → m < j → statesL[m]? ≠ some x) ∧ 2 ≤ j := by
    intro x hx
    simp only [hereL, List.mem_cons, List.not_mem_nil, or_false] at hx
    rcases hx with rfl | rfl | rfl | rfl | rfl | rfl
    · exact ⟨2, by decide, rfl, by decide +kernel, by decide⟩
    · exact ⟨3, by decide, rfl, by decide +kernel, by decide⟩
    · exact ⟨4, by decide, rfl, by decide +kernel, by decide⟩
    · exact ⟨5, by decide, rfl, by decide +kernel, by decide⟩
    · exact ⟨6, by decide, rfl, by decide +kernel, by decide⟩
    · exact ⟨7, by decide, rfl, by decide +kernel, by decide⟩
  obtain ⟨j, h8, hj, hn, h2⟩ := key x h
  exact ⟨j, hj, fun m hm => hn m (by omega) hm, h2⟩
theorem place_gone {x : Str} (h : x ∈ goneL) : ∃ j, statesL[j]? = some x ∧ (∀ m, m < j → statesL[m]? ≠ some x) ∧ j < 2 := by
  simp only [goneL, List.mem_cons, List.not_mem_nil, or_false] at h
  rcases h with rfl | rfl
  · exact ⟨0, rfl, fun m hm => absurd hm (Nat.not_lt_zero _), by decide⟩
  · exact ⟨1, rfl, fun m hm => by
      have : m = 0 := by omega
      subst this
      decide +kernel, by decide⟩
local macro_rules | `(tactic| walk_at "getMethod ref") => `(tactic| (k_here; k_dflt (refine' states_method ?F ?X ?_; (case F => k_asm); (case X => k_asm))))
local macro_rules | `(tactic| walk_at "call builtin:tuple.index") => `(tactic| (k_here; k_dflt (first
  | (refine' states_index ?F ?X ?hj ?hn ?_; (case F => k_asm); (case X => k_asm); (case hj => assumption); (case hn => assumption))
  | (refine' states_index (j := 2) ?F ?X ?hj ?hn ?_; (case F => k_asm); (case X => k_asm); (case hj => rfl); (case hn => exact init_no))); intro t' k'; (try dsimp only)))
theorem is_told_c {x : Str} {t : Tok} {b : Bool} (hb : (b = true ∧ x ∈ hereL) ∨ (b = false ∧ x ∈ goneL))
    (B : Below A₀ base outer h₀) (F : Fr h₀ L s.heap m) (X : (hd.heap_39 w.params).In h₀) (N : News h₀ L s.heap news) (T : Top hd.view_39 LW mean mg mb h₀) (hk : cs.kind = .function)
    (hdp : dp + 2 < recursionLimit)
    (ret : ∀ h' tk', Fr h₀ L h' m → News h₀ L h' news → Q (.bool b) { s with heap := h', toks := tk' }) :
    wpAny (model Prg w) (ktrTop dp un gd cn cs L a ccd cl outer) (call (.ref 36) [.str x t]) Q E s := by
  have hp : ∃ j : Nat, statesL[j]? = some x ∧ (∀ m, m < j → statesL[m]? ≠ some x) ∧ b = decide (2 ≤ (j : Int)) := by
    rcases hb with ⟨rfl, hx⟩ | ⟨rfl, hx⟩
    · obtain ⟨j, h1, h2, h3⟩ := place_here hx
      exact ⟨j, h1, h2, by symm; rw [decide_eq_true_eq]; omega⟩
    · obtain ⟨j, h1, h2, h3⟩ := place_gone hx
      exact ⟨j, h1, h2, by symm; rw [decide_eq_false_iff_not]; omega⟩
  obtain ⟨j, hj, hno, hbj⟩ := hp
  clear hb
  revert X; unfold Prg; k_fill; w_top off; intro X
  refine wpAny_call ?_
  k_dflt cell_enter
  k_steps
  rename Fr _ _ _ _ => F₂; rename News _ _ _ _ => N₂
  subst hbj
  exact ret _ _ F₂ N₂
end Mine
end
section
open PySem PySem.W PyProof.Rows
set_option maxRecDepth 100000
set_option maxHeartbeats 4000000
namespace Mine
local macro_rules | `(tactic| k_room) => `(tactic| ktr_room)
local macro_rules | `(tactic| k_units) => `(tactic| ktr_units)
variable {w : World} {mean : ExcName → Option Value} {mg mb : Str → Option Value} {dp un : Nat} {gd : Option (List Code)} {cn : Str} {cs : Scope} {a : Addr} {ccd : Value} {cl : List (Str × Addr)} {outer : List Env} {A₀ : Around} {base h₀ : Heap} {L : Addr} {m : Str → Option Value} {news : List (Addr × Obj)} {s : Shared} {Q E : Value → Shared → Prop}


local macro_rules | `(tactic| k_all) => `(tactic| first | exact ne_of_all_lt (by assumption) | exact ne_of_allLt (by assumption))
local macro_rules | `(tactic| k_mem) => `(tactic| first | assumption | exact List.mem_cons_self | (refine List.mem_cons_of_mem _ ?_; k_mem))
local macro_rules | `(tactic| walk_at "getMethod ref") => `(tactic| (k_here; k_dflt (refine' ds_method ?N ?p ?d ?_; (case N => k_asm); (case p => k_mem); (case d => assumption))))
local macro_rules | `(tactic| walk_at "callWith") => `(tactic| (k_here; (with_reducible refine' callWith_method1 ?_ ?cwe ?cwp); (case cwe => with_unfolding_all rfl); (case cwp => with_unfolding_all rfl)))
local macro_rules | `(tactic| walk_at "eval Dict") => `(tactic| (k_here; k_dflt (refine' kdn_str ?q ?F ?N ?b ?a ?l ?e ?n ?_; (case q => rfl); (case F => k_asm); (case N => first | k_asm | exact News.nil); (case b => exact Top.nolimit (by k_asm)); (case a => rfl); (case l => rfl); (case e => exact List.cons_ne_nil _ _); (case n => exact Nat.le_of_ble_eq_true rfl)); intro d' h' o' F' N' l1 lo' hd'; (try k_lt l1)))
local macro_rules | `(tactic| walk_at "KdnMade") => `(tactic| (k_here; k_dflt (refine' ds_made ?F ?N ?U ?d ?k ?n ?s ?_; (case F => k_asm); (case N => k_asm); (case U => k_updF); (case d => k_asm); (case k => rfl); (case n => exact of_decide_eq_true (by first | rfl | kernel_rfl!)); (case s => repeat' (first | exact PIs.nil | refine' PIs.cons ?_ ?_ | exact VIs.i | exact VIs.s | exact VIs.b | exact VIs.n | exact VIs.r))); (intro h' o' tk' F' N' hD'); (try dsimp only at N'); (try dsimp only)))
local macro_rules | `(tactic| walk_at "subscriptTail") => `(tactic| (k_here; (with_reducible show wpAny _ _ (subscriptTail _ _ (Value.ref _) (Value.str _ _)) _ _ _); k_dflt (refine' ds_item ?N ?p ?d ?e ?_; (case N => k_asm); (case p => k_mem); (case d => assumption); (case e => first | rfl | kernel_rfl)); (intro v' tk' hv'); (first | (obtain ⟨t', hv''⟩ := hv'; subst hv'') | (have hv'' : v' = _ := hv'; subst hv'')); (try dsimp only)))
local macro_rules | `(tactic| walk_at "setItem ref str") => `(tactic| (k_here; k_dflt (refine' ds_set ?F ?N ?U ?d ?v ?z ?e ?_; (case F => k_asm); (case N => k_asm); (case U => k_updF); (case d => assumption); (case v => first | exact VIs.i | exact VIs.s | exact VIs.b | exact VIs.n | exact VIs.r); (case z => exact Nat.le_of_ble_eq_true rfl); (case e => exact rfl)); (intro h' o' tk' F' N' hD'); (try dsimp only at N'); (try dsimp only)))
def viewSp1 : List (Str × VS) := [(Str.ofString "kind", .str (Str.ofString "broadcast")), (Str.ofString "mask", .int 24), (Str.ofString "interval", .int 10), (Str.ofString "dead", .int 40), (Str.ofString "options", .int 2), (Str.ofString "priority", .int 1), (Str.ofString "dr", .int 0)]
def viewSp : List (Str × VS) := [(Str.ofString "kind", .str (Str.ofString "broadcast")), (Str.ofString "mask", .int 24), (Str.ofString "interval", .int 10), (Str.ofString "dead", .int 40), (Str.ofString "options", .int 2), (Str.ofString "priority", .int 1), (Str.ofString "dr", .int 0), (Str.ofString "bdr", .int 0), (Str.ofString "id", .int 70), (Str.ofString "addr", .int 5)]
theorem vmerge1 : smerge [(Str.ofString "kind", .str (Str.ofString "broadcast")), (Str.ofString "mask", .int 24), (Str.ofString "interval", .int 10), (Str.ofString "dead", .int 40)] [(Str.ofString "options", .int 2), (Str.ofString "priority", .int 1), (Str.ofString "dr", .int 0)] = viewSp1 := by kernel_rfl
theorem vmerge2 : smerge viewSp1 [(Str.ofString "bdr", .int 0), (Str.ofString "id", .int 70), (Str.ofString "addr", .int 5)] = viewSp := by kernel_rfl
local macro_rules | `(tactic| walk_at "call builtin:dict.update") => `(tactic| (k_here; k_dflt (first
  | (refine' ds_update (res := viewSp1) ?F ?N ?U ?d ?p ?e ?lo ?ne ?sz vmerge1 ?_; (case F => k_asm); (case N => k_asm); (case U => k_updF); (case d => assumption); (case p => k_mem); (case e => assumption); (case lo => assumption); (case ne => k_ne); (case sz => exact Nat.le_of_ble_eq_true rfl))
  | (refine' ds_update (res := viewSp) ?F ?N ?U ?d ?p ?e ?lo ?ne ?sz vmerge2 ?_; (case F => k_asm); (case N => k_asm); (case U => k_updF); (case d => assumption); (case p => k_mem); (case e => assumption); (case lo => assumption); (case ne => k_ne); (case sz => exact Nat.le_of_ble_eq_true rfl))); (intro h' o' F' N' hD'); (try dsimp only at N')))
theorem hello_view_c {i nl : Addr} {oi : Obj} (hi : (i, oi) ∈ news) (hoi : DictIs PySem.Challenge.rw_rh0209_01.row.prog w oi (ifaceSp nl))
    (B : Below A₀ base outer h₀) (F : Fr h₀ L s.heap m) (X : (hd.heap_39 w.params).In h₀) (N : News h₀ L s.heap news) (T : Top hd.view_39 LW mean mg mb h₀) (hk : cs.kind = .function)
    (hdp : dp + 2 < recursionLimit)
    (ret : ∀ (d : Addr) o' h' tk', Fr h₀ L h' m → News h₀ L h' ((d, o') :: news) → (∀ p ∈ news, p.1 < d) → (d == sysModules) = false → DictIs PySem.Challenge.rw_rh0209_01.row.prog w o' viewSp → Q (.ref d) { s with heap := h', toks := tk' }) :
    wpAny (model Prg w) (ktrTop dp un gd cn cs L a ccd cl outer) (call (.ref 50) [.ref i]) Q E s := by
  revert X; unfold Prg; k_fill; w_top off; intro X
  refine wpAny_call ?_
  k_dflt cell_enter
  k_steps
  rename Fr _ _ _ _ => F₂; rename News _ _ _ _ => N₂; rename DictIs _ _ _ _ => D₂
  exact ret _ _ _ _ F₂ (fun p hp => N₂ p (List.mem_cons_of_mem _ (List.mem_cons_of_mem _ hp))) (by assumption) (by assumption) D₂
end Mine
end
section
open PySem PySem.W PyProof.Rows
set_option maxRecDepth 100000
set_option maxHeartbeats 4000000
namespace Mine
local macro_rules | `(tactic| k_room) => `(tactic| ktr_room)
local macro_rules | `(tactic| k_units) => `(tactic| ktr_units)
variable {w : World} {mean : ExcName → Option Value} {mg mb : Str → Option Value} {dp un : Nat} {gd : Option (List Code)} {cn : Str} {cs : Scope} {a : Addr} {ccd : Value} {cl : List (Str × Addr)} {outer : List Env} {A₀ : Around} {base h₀ : Heap} {L : Addr} {m : Str → Option Value} {news : List (Addr × Obj)} {s : Shared} {Q E : Value → Shared → Prop}


local macro_rules | `(tactic| k_all) => `(tactic| first | exact ne_of_all_lt (by assumption) | exact ne_of_allLt (by assumption))
local macro_rules | `(tactic| k_mem) => `(tactic| first | assumption | exact List.mem_cons_self | (refine List.mem_cons_of_mem _ ?_; k_mem))
local macro_rules | `(tactic| walk_at "getMethod ref") => `(tactic| (k_here; k_dflt (refine' ds_method ?N ?p ?d ?_; (case N => k_asm); (case p => k_mem); (case d => assumption))))
local macro_rules | `(tactic| walk_at "callWith") => `(tactic| (k_here; (with_reducible refine' callWith_method1 ?_ ?cwe ?cwp); (case cwe => with_unfolding_all rfl); (case cwp => with_unfolding_all rfl)))
local macro_rules | `(tactic| walk_at "eval Dict") => `(tactic| (k_here; k_dflt (refine' kdn_str ?q ?F ?N ?b ?a ?l ?e ?n ?_; (case q => rfl); (case F => k_asm); (case N => first | k_asm | exact News.nil); (case b => exact Top.nolimit (by k_asm)); (case a => rfl); (case l => rfl); (case e => exact List.cons_ne_nil _ _); (case n => exact Nat.le_of_ble_eq_true rfl)); intro d' h' o' F' N' l1 lo' hd'; (try k_lt l1)))
local macro_rules | `(tactic| walk_at "KdnMade") => `(tactic| (k_here; k_dflt (refine' ds_made ?F ?N ?U ?d ?k ?n ?s ?_; (case F => k_asm); (case N => k_asm); (case U => k_updF); (case d => k_asm); (case k => rfl); (case n => exact of_decide_eq_true (by first | rfl | kernel_rfl!)); (case s => repeat' (first | exact PIs.nil | refine' PIs.cons ?_ ?_ | exact VIs.i | exact VIs.s | exact VIs.b | exact VIs.n | exact VIs.r))); (intro h' o' tk' F' N' hD'); (try dsimp only at N'); (try dsimp only)))
local macro_rules | `(tactic| walk_at "subscriptTail") => `(tactic| (k_here; (with_reducible show wpAny _ _ (subscriptTail _ _ (Value.ref _) (Value.str _ _)) _ _ _); k_dflt (refine' ds_item ?N ?p ?d ?e ?_; (case N => k_asm); (case p => k_mem); (case d => assumption); (case e => first | rfl | kernel_rfl)); (intro v' tk' hv'); (first | (obtain ⟨t', hv''⟩ := hv'; subst hv'') | (have hv'' : v' = _ := hv'; subst hv'')); (try dsimp only)))
local macro_rules | `(tactic| walk_at "setItem ref str") => `(tactic| (k_here; k_dflt (refine' ds_set ?F ?N ?U ?d ?v ?z ?e ?_; (case F => k_asm); (case N => k_asm); (case U => k_updF); (case d => assumption); (case v => first | exact VIs.i | exact VIs.s | exact VIs.b | exact VIs.n | exact VIs.r); (case z => exact Nat.le_of_ble_eq_true rfl); (case e => exact rfl)); (intro h' o' tk' F' N' hD'); (try dsimp only at N'); (try dsimp only)))

local macro_rules | `(tactic| walk_at "call builtin:sorted") => `(tactic| (k_here; k_dflt (refine' sorted_srt ?F ?N ?m ?i ?l ?_; (case F => k_asm); (case N => k_asm); (case m => k_mem); (case i => assumption); (case l => omega)); (intro D' vs' c' h' F' N' l1 hi'); (try dsimp only)))
local macro_rules | `(tactic| walk_at "call type:tuple") => `(tactic| (k_here; k_dflt (refine' tuple_of_list ?F ?N ?m ?z ?_; (case F => k_asm); (case N => k_asm); (case m => k_mem); (case z => (have hln := IntsAre.length (by assumption); (try rw [srt_length] at hln); omega))); (intro D' h' F' N' l1); (try dsimp only)))
theorem hello_of_c {d hl : Addr} {od : Obj} {vs : List Value} {n : Nat} {ns : List Int} (hdm : (d, od) ∈ news) (hod : DictIs PySem.Challenge.rw_rh0209_01.row.prog w od viewSp) (hh : (hl, W.listOf vs.toArray n) ∈ news) (hi : IntsAre vs ns) (hso : ns.Pairwise (· ≤ ·)) (hlen : ns.length ≤ 12)
    (B : Below A₀ base outer h₀) (F : Fr h₀ L s.heap m) (X : (hd.heap_39 w.params).In h₀) (N : News h₀ L s.heap news) (T : Top hd.view_39 LW mean mg mb h₀) (hk : cs.kind = .function)
    (hdp : dp + 2 < recursionLimit)
    (ret : ∀ (D k : Addr) (t0 t1 t2 t3 t4 t5 t6 t7 : Tok) vs' h' tk', Fr h₀ L h' m → News h₀ L h' ((D, ({ cls := .type "tuple", data := .seq #[.str (Str.ofString "hello") t0, .int 24 t1, .int 10 t2, .int 2 t3, .int 1 t4, .int 40 t5, .int 0 t6, .int 0 t7, .ref k] 0 } : Obj)) :: (k, ({ cls := .type "tuple", data := .seq vs'.toArray 0 } : Obj)) :: news) → (∀ p ∈ news, p.1 < k) → @LT.lt Nat _ k D → IntsAre vs' ns → Q (.ref D) { s with heap := h', toks := tk' }) :
    wpAny (model Prg w) (ktrTop dp un gd cn cs L a ccd cl outer) (call (.ref 21) [.ref d, .ref hl]) Q E s := by
  revert X; unfold Prg; k_fill; w_top off; intro X
  refine wpAny_call ?_
  k_dflt cell_enter
  k_steps
  rename Fr _ _ _ _ => F₂; rename News _ _ _ _ => N₂; rename IntsAre _ _ => hI
  rw [srt_self hso] at hI
  exact ret _ _ _ _ _ _ _ _ _ _ _ _ _ F₂ (cb_drop N₂ (by
    refine List.forall_mem_cons.mpr ⟨List.mem_cons_self, List.forall_mem_cons.mpr ⟨by k_mem, fun p hp => ?_⟩⟩
    exact List.mem_cons_of_mem _ (List.mem_cons_of_mem _ (List.mem_cons_of_mem _ (List.mem_cons_of_mem _ (List.mem_cons_of_mem _ hp)))))) (by
    intro p hp
    have hq := (by assumption : ∀ q ∈ (_ :: _ :: news), q.1 < _) p (List.mem_cons_of_mem _ (List.mem_cons_of_mem _ hp))
    exact hq) (by omega) hI
end Mine
end
section
open PySem PySem.W PyProof.Rows
set_option maxRecDepth 100000
set_option maxHeartbeats 4000000
namespace Mine
local macro_rules | `(tactic| k_room) => `(tactic| ktr_room)
local macro_rules | `(tactic| k_units) => `(tactic| ktr_units)
variable {w : World} {mean : ExcName → Option Value} {mg mb : Str → Option Value} {dp un : Nat} {gd : Option (List Code)} {cn : Str} {cs : Scope} {a : Addr} {ccd : Value} {cl : List (Str × Addr)} {outer : List Env} {A₀ : Around} {base h₀ : Heap} {L : Addr} {m : Str → Option Value} {news : List (Addr × Obj)} {s : Shared} {Q E : Value → Shared → Prop}


local macro_rules | `(tactic| k_all) => `(tactic| first | exact ne_of_all_lt (by assumption) | exact ne_of_allLt (by assumption))
local macro_rules | `(tactic| k_mem) => `(tactic| first | assumption | exact List.mem_cons_self | (refine List.mem_cons_of_mem _ ?_; k_mem))
local macro_rules | `(tactic| walk_at "getMethod ref") => `(tactic| (k_here; k_dflt (refine' ds_method ?N ?p ?d ?_; (case N => k_asm); (case p => k_mem); (case d => assumption))))
local macro_rules | `(tactic| walk_at "callWith") => `(tactic| (k_here; (with_reducible refine' callWith_method1 ?_ ?cwe ?cwp); (case cwe => with_unfolding_all rfl); (case cwp => with_unfolding_all rfl)))
local macro_rules | `(tactic| walk_at "eval Dict") => `(tactic| (k_here; k_dflt (refine' kdn_str ?q ?F ?N ?b ?a ?l ?e ?n ?_; (case q => rfl); (case F => k_asm); (case N => first | k_asm | exact News.nil); (case b => exact Top.nolimit (by k_asm)); (case a => rfl); (case l => rfl); (case e => exact List.cons_ne_nil _ _); (case n => exact Nat.le_of_ble_eq_true rfl)); intro d' h' o' F' N' l1 lo' hd'; (try k_lt l1)))
local macro_rules | `(tactic| walk_at "KdnMade") => `(tactic| (k_here; k_dflt (refine' ds_made ?F ?N ?U ?d ?k ?n ?s ?_; (case F => k_asm); (case N => k_asm); (case U => k_updF); (case d => k_asm); (case k => rfl); (case n => exact of_decide_eq_true (by first | rfl | kernel_rfl!)); (case s => repeat' (first | exact PIs.nil | refine' PIs.cons ?_ ?_ | exact VIs.i | exact VIs.s | exact VIs.b | exact VIs.n | exact VIs.r))); (intro h' o' tk' F' N' hD'); (try dsimp only at N'); (try dsimp only)))
local macro_rules | `(tactic| walk_at "subscriptTail") => `(tactic| (k_here; (with_reducible show wpAny _ _ (subscriptTail _ _ (Value.ref _) (Value.str _ _)) _ _ _); k_dflt (refine' ds_item ?N ?p ?d ?e ?_; (case N => k_asm); (case p => k_mem); (case d => assumption); (case e => first | rfl | kernel_rfl)); (intro v' tk' hv'); (first | (obtain ⟨t', hv''⟩ := hv'; subst hv'') | (have hv'' : v' = _ := hv'; subst hv'')); (try dsimp only)))
local macro_rules | `(tactic| walk_at "setItem ref str") => `(tactic| (k_here; k_dflt (refine' ds_set ?F ?N ?U ?d ?v ?z ?e ?_; (case F => k_asm); (case N => k_asm); (case U => k_updF); (case d => assumption); (case v => first | exact VIs.i | exact VIs.s | exact VIs.b | exact VIs.n | exact VIs.r); (case z => exact Nat.le_of_ble_eq_true rfl); (case e => exact rfl)); (intro h' o' tk' F' N' hD'); (try dsimp only at N'); (try dsimp only)))

local macro_rules | `(tactic| cell_enter) => `(tactic| (refine' code_def ?k1 ?k2 ?k3 ?k4 ?k5 ?kA ?kF ?kK ?k6 ?k7 ?k8 ?k9 ?kB ?_ ?c2 ?c3 ?c4 ?c5; (case kA => exact rfl); (case kF => exact rfl); (case kK => assumption); (case k1 => k_asm); (case k2 => k_asm); (case k3 => k_asm); (case k4 => k_asm); (case k5 => k_asm); (case k6 => k_is); (case k7 => k_is); (case k8 => k_room); (case k9 => exact binds_K (by k_in) rfl (by k_is) rfl rfl rfl); (case c5 => decide); (case kB => exact locs rfl); (case c2 => exact rfl); (case c3 => exact rfl); (case c4 => exact rfl); k_whole; intro g' L' h' FG' F' N' B' X' T'; (try dsimp only); (try k_lift B'); (try k_fold)))
local macro_rules | `(tactic| walk_at "call builtin:sorted") => `(tactic| (k_here; k_dflt (refine' sorted_srt ?F ?N ?m ?i ?l ?_; (case F => k_asm); (case N => k_asm); (case m => k_mem); (case i => assumption); (case l => omega)); (intro D' vs' c' h' F' N' l1 hi'); (try dsimp only)))
local macro_rules | `(tactic| walk_at "eval ListComp") => `(tactic| (k_here; (with_reducible show wpAny _ _ (eval (PySem.Expr.ListComp _ [⟨_, _, [], 0⟩] _ _) _) _ _ _); k_dflt (refine LCg.ListComp_U (F₀ := by k_asm) (by with_unfolding_all rfl) (by decide) (by rfl) (by decide) (by rfl) ?_)))
local macro_rules | `(tactic| walk_at "eval ListComp") => `(tactic| (k_here; (with_reducible show wpAny _ _ (eval (PySem.Expr.ListComp _ [⟨_, _, [_], 0⟩] _ _) _) _ _ _); k_dflt (refine LCt.ListComp_T (F₀ := by k_asm) (by with_unfolding_all rfl) (by decide) (by rfl) (by decide) (by rfl) ?_)))
local macro_rules | `(tactic| walk_at "call ref") => `(tactic| (k_here; k_dflt (refine' is_told_c ?hb ?k1 ?k2 ?k3 ?k4 ?k5 ?kK ?kd ?_; (case k1 => k_asm); (case k2 => k_asm); (case k3 => k_asm); (case k4 => k_asm); (case k5 => k_asm); (case kK => first | exact rfl | assumption); (case kd => ktr_room); (case hb => assumption)); (intro h' tk' F' N'); (try dsimp only); (try k_fold)))
theorem len_ints {prog : Program} {A : Around} {l : Addr} {vs : List Value} {ns : List Int} {n : Nat} (N : News h₀ L s.heap news) (hm : (l, W.listOf vs.toArray n) ∈ news) (hi : IntsAre vs ns) (hle : ns.length ≤ 1000) (h : ∀ t tk, Q (.int (ns.length : Int) t) { s with toks := tk }) :
    wpAny (model prog w) A (call (.builtin "len") [.ref l]) Q E s :=
  len_list (items := vs.toArray) ⟨_, (N _ hm).1, rfl, n, rfl⟩ (by rw [List.size_toArray, hi.length]; omega) (by rw [List.size_toArray, hi.length]; exact h _ _)
local macro_rules | `(tactic| walk_at "call builtin:len") => `(tactic| (k_here; (with_reducible show wpAny _ _ (call (Value.builtin "len") [Value.ref _]) _ _ _); k_dflt (refine' len_ints ?N ?m ?i ?l ?_; (case N => k_asm); (case m => k_mem); (case i => assumption); (case l => (try rw [srt_length]); omega)); (intro t' tk'); (try dsimp only)))
local macro_rules | `(tactic| walk_at "subscriptTail Name Slice ref ref") => `(tactic| (k_here; (with_reducible show wpAny _ _ (subscriptTail _ (PySem.Expr.Slice _ _ none _) (Value.ref _) (Value.ref _)) _ _ _); k_dflt (refine' kmk_slice_ints ?F ?N ?l ?p ?q ?i ?m ?c ?_ ?s ?t ?z; (case F => k_asm); (case N => k_asm); (case l => exact News.isList (by k_asm) (by k_mem)); (case p => kmk_part); (case q => kmk_part); (case i => assumption); (case m => exact kmk_upto (by assumption) (by omega)); (case c => exact rfl); (case s => with_unfolding_all rfl); (case t => kmk_pure); (case z => exact kmk_sz (by assumption) (by (try rw [srt_length]); rw [sizeLine_eq]; omega))); (intro D' ws' h' F' N' l1 hI' hC' hL'); (try dsimp only)))
local macro_rules | `(tactic| walk_at "call ref") => `(tactic| (k_here; (with_reducible show wpAny _ _ (call (Value.ref 50) [Value.ref _]) _ _ _); k_dflt (refine' hello_view_c ?hi ?ho ?k1 ?k2 ?k3 ?k4 ?k5 ?kK ?kd ?_; (case k1 => k_asm); (case k2 => k_asm); (case k3 => k_asm); (case k4 => k_asm); (case hi => k_mem); (case ho => assumption); (case k5 => k_asm); (case kK => first | exact rfl | assumption); (case kd => ktr_room)); (intro d' o' h' tk' F' N' l1 lo' hD'); (try dsimp only); (try k_fold)))
local macro_rules | `(tactic| walk_at "call ref") => `(tactic| (k_here; (with_reducible show wpAny _ _ (call (Value.ref 21) [Value.ref _, Value.ref _]) _ _ _); k_dflt (refine' hello_of_c ?hi ?ho ?hh ?hI ?hs ?hl ?k1 ?k2 ?k3 ?k4 ?k5 ?kK ?kd ?_; (case k1 => k_asm); (case k2 => k_asm); (case k3 => k_asm); (case k4 => k_asm); (case hi => k_mem); (case ho => assumption); (case hh => k_mem); (case hI => assumption); (case hs => exact List.Pairwise.sublist (List.take_sublist _ _) (srt_pw _)); (case hl => exact Nat.le_trans (List.length_take_le' _ _) (Nat.le_trans (Nat.le_of_eq (srt_length _)) (by assumption))); (case k5 => k_asm); (case kK => first | exact rfl | assumption); (case kd => ktr_room)); (intro D k t0 t1 t2 t3 t4 t5 t6 t7 vs' h' tk' F' N' l1 l2 hI'); (try dsimp only); (try k_fold)))
theorem pairs_up {q : Addr × Obj} {nw : List (Addr × Obj)} {vs : List Value} {ns : List Int} (h : PairsAre nw vs ns) : PairsAre (q :: nw) vs ns :=
  ⟨h.1, fun i v e => by obtain ⟨ad, t, k, c, r1, r2, r3⟩ := h.2 i v e; exact ⟨ad, t, k, c, r1, r2, List.mem_cons_of_mem _ r3⟩⟩
theorem lt_of_all {l : List (Addr × Obj)} {d : Addr} (h : ∀ q ∈ l, q.1 < d) : ∀ p ∈ l, p.1 < d := h
local macro_rules | `(tactic| walk_at "call type:dict") => `(tactic| (k_here; (with_reducible show wpAny _ _ (call (Value.type "dict") [Value.ref _]) _ _ _); k_dflt (refine' dict_of_pairs ?hh ?F ?N ?b ?m ?p ?n ?d ?_; (case hh => exact rfl); (case F => k_asm); (case N => k_asm); (case b => exact modules_low (Top.nolimit (by k_asm))); (case m => k_mem); (case p => exact pairs_up (by assumption)); (case n => rw [srt_length]; omega); (case d => exact (srt_perm _).nodup_iff.mpr (by assumption))); (intro D' o' h' tk' F' N' l1 lo' hd'); (try dsimp only)))
local macro_rules | `(tactic| walk_at "call builtin:sorted") => `(tactic| (k_here; (with_reducible show wpAny _ _ (call (Value.builtin "sorted") [Value.ref _]) _ _ _); k_dflt (refine' sorted_dict ?hh ?F ?N ?m ?d ?lo ?n ?_; (case hh => exact rfl); (case F => k_asm); (case N => k_asm); (case m => exact List.mem_cons_self); (case d => assumption); (case lo => assumption); (case n => rw [srt_length]; omega)); (intro D' vs' c' h' tk' F' N' l1 hi'); (rw [srt_self (srt_pw _)] at hi'); (try dsimp only)))
def nbSp (a : Int × Str) : List (Str × VS) := [(Str.ofString "router", .int a.1), (Str.ofString "state", .str a.2)]
def NbIs (w : World) (news : List (Addr × Obj)) (v : Value) (a : Int × Str) : Prop := ∃ ad o, v = .ref ad ∧ (ad, o) ∈ news ∧ DictIs PySem.Challenge.rw_rh0209_01.row.prog w o (nbSp a)
def NbAre (w : World) (news : List (Addr × Obj)) (vs : List Value) (nb : List (Int × Str)) : Prop := vs.length = nb.length ∧ ∀ (i : Nat) (v : Value), vs[i]? = some v → ∃ a, nb[i]? = some a ∧ NbIs w news v a
def told (x : Str) : Bool := hereL.contains x
theorem own_hello_c {d nl : Addr} {od : Obj} {vs : List Value} {n : Nat} {nb : List (Int × Str)} {most : Int} {tm : Tok} (hdm : (d, od) ∈ news) (hod : DictIs PySem.Challenge.rw_rh0209_01.row.prog w od (ifaceSp nl)) (hnl : (nl, W.listOf vs.toArray n) ∈ news) (hnb : NbAre w news vs nb)
    (hst : ∀ a ∈ nb, a.2 ∈ hereL ∨ a.2 ∈ goneL) (hid : (nb.map (·.1)).Nodup) (hlen : nb.length ≤ 12) (hm0 : 0 ≤ most) (hm1 : most ≤ 20000)
    (B : Below A₀ base outer h₀) (F : Fr h₀ L s.heap m) (X : (hd.heap_39 w.params).In h₀) (N : News h₀ L s.heap news) (T : Top hd.view_39 LW mean mg mb h₀) (hk : cs.kind = .function)
    (hdp : dp + 3 < recursionLimit)
    (ret : ∀ (D k : Addr) (t0 t1 t2 t3 t4 t5 t6 t7 : Tok) vs' h' tk', Fr h₀ L h' m → News h₀ L h' ((D, ({ cls := .type "tuple", data := .seq #[.str (Str.ofString "hello") t0, .int 24 t1, .int 10 t2, .int 2 t3, .int 1 t4, .int 40 t5, .int 0 t6, .int 0 t7, .ref k] 0 } : Obj)) :: (k, ({ cls := .type "tuple", data := .seq vs'.toArray 0 } : Obj)) :: news) → (∀ p ∈ news, p.1 < k) → @LT.lt Nat _ k D → IntsAre vs' ((srt ((nb.filter fun a => told a.2).map fun a => a.1)).take most.toNat) → Q (.ref D) { s with heap := h', toks := tk' }) :
    wpAny (model Prg w) (ktrTop dp un gd cn cs L a ccd cl outer) (call (.ref 56) [.ref d, .int most tm]) Q E s := by
  revert X; unfold Prg; k_fill; w_top off; intro X
  refine wpAny_call ?_
  k_dflt cell_enter
  iterate 12 (first | (k_unfold; (try dsimp only)) | (k_end; wrow_close) | walk1 | (dsimp only; walk1) | (leave1; walk_say "STEP leave1"; try dsimp only))
  refine LCt.CompSrcT.ledger (k := n) (by rfl) (by k_asm) (by k_asm) hnl ?_ ?_
  · rw [sizeLine_eq, List.size_toArray, hnb.1]; omega
  intro g₁
  refine comp_filter (items := nb) (Rl := NbIs w news) (fun a => told a.2) (fun a => a.1) (by rw [List.size_toArray, hnb.1]) (fun i v hv hi => hnb.2 i v (by simpa using hv)) ?_ ?_ ?_
  · intro v a I oI C oC D m₂ ys h tk E' ha hR hk hC hx F₁ N₁ off ne
    obtain ⟨ad, o, rfl, hm, hD⟩ := hR
    have hb : (true = true ∧ a.2 ∈ hereL) ∨ (true = false ∧ a.2 ∈ goneL) := .inl ⟨rfl, List.contains_iff_mem.mp hk⟩
    (try k_fold)
    k_steps
    exact LCg.CompEnd.intro (by assumption) (by assumption) news (fun p hp => hp) off (.inr ⟨_, hnl, rfl, _, rfl⟩) ⟨rfl, _, rfl⟩
  · intro v a I oI C oC D m₂ ys h tk E' ha hR hk hC hx F₁ N₁ off ne
    obtain ⟨ad, o, rfl, hm, hD⟩ := hR
    have hb : (false = true ∧ a.2 ∈ hereL) ∨ (false = false ∧ a.2 ∈ goneL) := .inr ⟨rfl, (hst a ha).resolve_left fun h => by
      have h' : told a.2 = true := List.contains_iff_mem.mpr h
      have hk' : told a.2 = false := hk
      rw [h'] at hk'; cases hk'⟩
    (try k_fold)
    k_steps
    exact LCg.CompEnd.intro (by assumption) (by assumption) news (fun p hp => hp) off (.inr ⟨_, hnl, rfl, _, rfl⟩) rfl
  · intro ys hys
    have hTl : (List.map (fun a => a.1) (List.filter (fun a => told a.2) nb)).length ≤ 12 := by
      rw [List.length_map]; exact Nat.le_trans (List.length_filter_le _ _) hlen
    have hTn : (List.map (fun a => a.1) (List.filter (fun a => told a.2) nb)).Nodup := List.Nodup.sublist (List.Sublist.map _ List.filter_sublist) hid
    obtain ⟨Tl, hT⟩ : ∃ Tl, Tl = List.map (fun a => a.1) (List.filter (fun a => told a.2) nb) := ⟨_, rfl⟩
    rw [← hT] at hys hTl hTn
    k_steps
    · refine LCg.CompSrc.ledger (by rfl) (by k_asm) (by k_asm) (by k_mem) ?_ ?_
      · rw [sizeLine_eq, List.size_toArray, IntsAre.length (by assumption), srt_length]; omega
      intro g₂
      refine comp_grow (items := srt Tl) (Rl := fun v k => ∃ t, v = .int k t) (El := fun nw y k => ∃ ad t c, y = .ref ad ∧ (ad, ({ cls := .type "tuple", data := .seq #[.int k t, .bool true] c } : Obj)) ∈ nw) ?_ ?_ ?_ ?_ ?_
      · rintro nw nw' y a hs ⟨ad, t, c, rfl, hm⟩
        exact ⟨ad, t, c, rfl, hs _ hm⟩
      · rw [List.size_toArray, IntsAre.length (by assumption)]
      · intro i v hv _
        obtain ⟨k, t, e, hk⟩ := IntsAre.at (by assumption) i v (by simpa using hv)
        exact ⟨k, hk, t, e⟩
      · intro nws v a I oI C oC D m₂ ys h tk E' hsub ha hR hC hx F₁ N₁ off ne
        obtain ⟨ta, rfl⟩ := hR
        (try k_fold)
        k_steps
        refine LCg.CompEnd.intro (by assumption) (by assumption) ((_, ({ cls := .type "tuple", data := .seq #[.int a ta, .bool true] 0 } : Obj)) :: nws) (fun p hp => ?_) ⟨?_, off⟩ (.inr ⟨_, List.mem_cons_of_mem _ (hsub _ (by k_mem)), rfl, _, rfl⟩) ⟨fun p hp => List.mem_cons_of_mem _ hp, _, ta, 0, rfl, List.mem_cons_self⟩
        · simp only [List.mem_cons] at hp ⊢
          rcases hp with h | h | h | h | h
          · exact .inr (.inl h)
          · exact .inr (.inr (.inl h))
          · exact .inr (.inr (.inr (.inl h)))
          · exact .inl h
          · exact .inr (.inr (.inr (.inr h)))
        · have hl := (by assumption : @LT.lt Nat _ I _ ∧ @LT.lt Nat _ C _ ∧ @LT.lt Nat _ D _ ∧ AllLt _ nws)
          exact ⟨Nat.ne_of_gt hl.1, Nat.ne_of_gt hl.2.1, Nat.ne_of_gt hl.2.2.1⟩
      · intro ys nws hsub hyl hyp
        have hPA : PairsAre nws ys (srt Tl) := ⟨hyl, fun i v hv => by obtain ⟨k, hk, ad, t, c, r1, hm⟩ := hyp i v hv; exact ⟨ad, t, k, c, r1, hk, hm⟩⟩
        have hup : ∀ p ∈ news, p ∈ nws := fun p hp => hsub p (List.mem_cons_of_mem _ (List.mem_cons_of_mem _ hp))
        have hdm' := hup _ hdm
        k_steps
        rename Fr _ _ _ _ => F₂; rename News _ _ _ _ => N₂; rename IntsAre _ _ => hI
        subst hT
        exact ret _ _ _ _ _ _ _ _ _ _ _ _ _ F₂ (cb_drop N₂ (by
          refine List.forall_mem_cons.mpr ⟨List.mem_cons_self, List.forall_mem_cons.mpr ⟨by k_mem, fun p hp => ?_⟩⟩
          repeat (first | exact hup p hp | apply List.mem_cons_of_mem))) (fun p hp => lt_of_all (by assumption) p (by repeat (first | exact hup p hp | apply List.mem_cons_of_mem))) (by omega) hI
    · rename Fr _ _ _ _ => F₂; rename News _ _ _ _ => N₂; rename IntsAre _ _ => hI
      subst hT
      exact ret _ _ _ _ _ _ _ _ _ _ _ _ _ F₂ (cb_drop N₂ (by
        refine List.forall_mem_cons.mpr ⟨List.mem_cons_self, List.forall_mem_cons.mpr ⟨by k_mem, fun p hp => ?_⟩⟩
        repeat (first | exact hp | apply List.mem_cons_of_mem))) (fun p hp => lt_of_all (by assumption) p (by repeat (first | exact hp | apply List.mem_cons_of_mem))) (by omega) hI
end Mine
end
section
open PySem PySem.W PyProof.Rows
set_option maxRecDepth 100000
set_option maxHeartbeats 4000000
namespace Mine
local macro_rules | `(tactic| k_room) => `(tactic| ktr_room)
local macro_rules | `(tactic| k_units) => `(tactic| ktr_units)
variable {w : World} {mean : ExcName → Option Value} {mg mb : Str → Option Value} {dp un : Nat} {gd : Option (List Code)} {cn : Str} {cs : Scope} {a : Addr} {ccd : Value} {cl : List (Str × Addr)} {outer : List Env} {A₀ : Around} {base h₀ : Heap} {L : Addr} {m : Str → Option Value} {news : List (Addr × Obj)} {s : Shared} {Q E : Value → Shared → Prop}


local macro_rules | `(tactic| k_all) => `(tactic| first | exact ne_of_all_lt (by assumption) | exact ne_of_allLt (by assumption))
local macro_rules | `(tactic| k_mem) => `(tactic| first | assumption | exact List.mem_cons_self | (refine List.mem_cons_of_mem _ ?_; k_mem))
local macro_rules | `(tactic| walk_at "getMethod ref") => `(tactic| (k_here; k_dflt (refine' ds_method ?N ?p ?d ?_; (case N => k_asm); (case p => k_mem); (case d => assumption))))
local macro_rules | `(tactic| walk_at "callWith") => `(tactic| (k_here; (with_reducible refine' callWith_method1 ?_ ?cwe ?cwp); (case cwe => with_unfolding_all rfl); (case cwp => with_unfolding_all rfl)))
local macro_rules | `(tactic| walk_at "eval Dict") => `(tactic| (k_here; k_dflt (refine' kdn_str ?q ?F ?N ?b ?a ?l ?e ?n ?_; (case q => rfl); (case F => k_asm); (case N => first | k_asm | exact News.nil); (case b => exact Top.nolimit (by k_asm)); (case a => rfl); (case l => rfl); (case e => exact List.cons_ne_nil _ _); (case n => exact Nat.le_of_ble_eq_true rfl)); intro d' h' o' F' N' l1 lo' hd'; (try k_lt l1)))
local macro_rules | `(tactic| walk_at "KdnMade") => `(tactic| (k_here; k_dflt (refine' ds_made ?F ?N ?U ?d ?k ?n ?s ?_; (case F => k_asm); (case N => k_asm); (case U => k_updF); (case d => k_asm); (case k => rfl); (case n => exact of_decide_eq_true (by first | rfl | kernel_rfl!)); (case s => repeat' (first | exact PIs.nil | refine' PIs.cons ?_ ?_ | exact VIs.i | exact VIs.s | exact VIs.b | exact VIs.n | exact VIs.r))); (intro h' o' tk' F' N' hD'); (try dsimp only at N'); (try dsimp only)))
local macro_rules | `(tactic| walk_at "subscriptTail") => `(tactic| (k_here; (with_reducible show wpAny _ _ (subscriptTail _ _ (Value.ref _) (Value.str _ _)) _ _ _); k_dflt (refine' ds_item ?N ?p ?d ?e ?_; (case N => k_asm); (case p => k_mem); (case d => assumption); (case e => first | rfl | kernel_rfl)); (intro v' tk' hv'); (first | (obtain ⟨t', hv''⟩ := hv'; subst hv'') | (have hv'' : v' = _ := hv'; subst hv'')); (try dsimp only)))
local macro_rules | `(tactic| walk_at "setItem ref str") => `(tactic| (k_here; k_dflt (refine' ds_set ?F ?N ?U ?d ?v ?z ?e ?_; (case F => k_asm); (case N => k_asm); (case U => k_updF); (case d => assumption); (case v => first | exact VIs.i | exact VIs.s | exact VIs.b | exact VIs.n | exact VIs.r); (case z => exact Nat.le_of_ble_eq_true rfl); (case e => exact rfl)); (intro h' o' tk' F' N' hD'); (try dsimp only at N'); (try dsimp only)))

local macro_rules | `(tactic| cell_enter) => `(tactic| (refine' code_def ?k1 ?k2 ?k3 ?k4 ?k5 ?kA ?kF ?kK ?k6 ?k7 ?k8 ?k9 ?kB ?_ ?c2 ?c3 ?c4 ?c5; (case kA => exact rfl); (case kF => exact rfl); (case kK => assumption); (case k1 => k_asm); (case k2 => k_asm); (case k3 => k_asm); (case k4 => k_asm); (case k5 => k_asm); (case k6 => k_is); (case k7 => k_is); (case k8 => k_room); (case k9 => exact binds_K (by k_in) rfl (by k_is) rfl rfl rfl); (case c5 => decide); (case kB => exact locs rfl); (case c2 => exact rfl); (case c3 => exact rfl); (case c4 => exact rfl); k_whole; intro g' L' h' FG' F' N' B' X' T'; (try dsimp only); (try k_lift B'); (try k_fold)))
local macro_rules | `(tactic| walk_at "call builtin:sorted") => `(tactic| (k_here; k_dflt (refine' sorted_srt ?F ?N ?m ?i ?l ?_; (case F => k_asm); (case N => k_asm); (case m => k_mem); (case i => assumption); (case l => omega)); (intro D' vs' c' h' F' N' l1 hi'); (try dsimp only)))
local macro_rules | `(tactic| walk_at "eval ListComp") => `(tactic| (k_here; (with_reducible show wpAny _ _ (eval (PySem.Expr.ListComp _ [⟨_, _, [], 0⟩] _ _) _) _ _ _); k_dflt (refine LCg.ListComp_U (F₀ := by k_asm) (by with_unfolding_all rfl) (by decide) (by rfl) (by decide) (by rfl) ?_)))
local macro_rules | `(tactic| walk_at "eval ListComp") => `(tactic| (k_here; (with_reducible show wpAny _ _ (eval (PySem.Expr.ListComp _ [⟨_, _, [_], 0⟩] _ _) _) _ _ _); k_dflt (refine LCt.ListComp_T (F₀ := by k_asm) (by with_unfolding_all rfl) (by decide) (by rfl) (by decide) (by rfl) ?_)))
local macro_rules | `(tactic| walk_at "call ref") => `(tactic| (k_here; k_dflt (refine' is_told_c ?hb ?k1 ?k2 ?k3 ?k4 ?k5 ?kK ?kd ?_; (case k1 => k_asm); (case k2 => k_asm); (case k3 => k_asm); (case k4 => k_asm); (case k5 => k_asm); (case kK => first | exact rfl | assumption); (case kd => ktr_room); (case hb => assumption)); (intro h' tk' F' N'); (try dsimp only); (try k_fold)))
local macro_rules | `(tactic| walk_at "call builtin:len") => `(tactic| (k_here; (with_reducible show wpAny _ _ (call (Value.builtin "len") [Value.ref _]) _ _ _); k_dflt (refine' len_ints ?N ?m ?i ?l ?_; (case N => k_asm); (case m => k_mem); (case i => assumption); (case l => (try rw [srt_length]); omega)); (intro t' tk'); (try dsimp only)))
local macro_rules | `(tactic| walk_at "subscriptTail Name Slice ref ref") => `(tactic| (k_here; (with_reducible show wpAny _ _ (subscriptTail _ (PySem.Expr.Slice _ _ none _) (Value.ref _) (Value.ref _)) _ _ _); k_dflt (refine' kmk_slice_ints ?F ?N ?l ?p ?q ?i ?m ?c ?_ ?s ?t ?z; (case F => k_asm); (case N => k_asm); (case l => exact News.isList (by k_asm) (by k_mem)); (case p => kmk_part); (case q => kmk_part); (case i => assumption); (case m => exact kmk_upto (by assumption) (by omega)); (case c => exact rfl); (case s => with_unfolding_all rfl); (case t => kmk_pure); (case z => exact kmk_sz (by assumption) (by (try rw [srt_length]); rw [sizeLine_eq]; omega))); (intro D' ws' h' F' N' l1 hI' hC' hL'); (try dsimp only)))
local macro_rules | `(tactic| walk_at "call ref") => `(tactic| (k_here; (with_reducible show wpAny _ _ (call (Value.ref 50) [Value.ref _]) _ _ _); k_dflt (refine' hello_view_c ?hi ?ho ?k1 ?k2 ?k3 ?k4 ?k5 ?kK ?kd ?_; (case k1 => k_asm); (case k2 => k_asm); (case k3 => k_asm); (case k4 => k_asm); (case hi => k_mem); (case ho => assumption); (case k5 => k_asm); (case kK => first | exact rfl | assumption); (case kd => ktr_room)); (intro d' o' h' tk' F' N' l1 lo' hD'); (try dsimp only); (try k_fold)))
local macro_rules | `(tactic| walk_at "call ref") => `(tactic| (k_here; (with_reducible show wpAny _ _ (call (Value.ref 21) [Value.ref _, Value.ref _]) _ _ _); k_dflt (refine' hello_of_c ?hi ?ho ?hh ?hI ?hs ?hl ?k1 ?k2 ?k3 ?k4 ?k5 ?kK ?kd ?_; (case k1 => k_asm); (case k2 => k_asm); (case k3 => k_asm); (case k4 => k_asm); (case hi => k_mem); (case ho => assumption); (case hh => k_mem); (case hI => assumption); (case hs => exact List.Pairwise.sublist (List.take_sublist _ _) (srt_pw _)); (case hl => exact Nat.le_trans (List.length_take_le' _ _) (Nat.le_trans (Nat.le_of_eq (srt_length _)) (by assumption))); (case k5 => k_asm); (case kK => first | exact rfl | assumption); (case kd => ktr_room)); (intro D k t0 t1 t2 t3 t4 t5 t6 t7 vs' h' tk' F' N' l1 l2 hI'); (try dsimp only); (try k_fold)))
local macro_rules | `(tactic| walk_at "call type:dict") => `(tactic| (k_here; (with_reducible show wpAny _ _ (call (Value.type "dict") [Value.ref _]) _ _ _); k_dflt (refine' dict_of_pairs ?hh ?F ?N ?b ?m ?p ?n ?d ?_; (case hh => exact rfl); (case F => k_asm); (case N => k_asm); (case b => exact modules_low (Top.nolimit (by k_asm))); (case m => k_mem); (case p => exact pairs_up (by assumption)); (case n => rw [srt_length]; omega); (case d => exact (srt_perm _).nodup_iff.mpr (by assumption))); (intro D' o' h' tk' F' N' l1 lo' hd'); (try dsimp only)))
local macro_rules | `(tactic| walk_at "call builtin:sorted") => `(tactic| (k_here; (with_reducible show wpAny _ _ (call (Value.builtin "sorted") [Value.ref _]) _ _ _); k_dflt (refine' sorted_dict ?hh ?F ?N ?m ?d ?lo ?n ?_; (case hh => exact rfl); (case F => k_asm); (case N => k_asm); (case m => exact List.mem_cons_self); (case d => assumption); (case lo => assumption); (case n => rw [srt_length]; omega)); (intro D' vs' c' h' tk' F' N' l1 hi'); (rw [srt_self (srt_pw _)] at hi'); (try dsimp only)))
local macro_rules | `(tactic| walk_at "no such key") => `(tactic| skip)
theorem own_hello_d {d nl : Addr} {od : Obj} {vs : List Value} {n : Nat} {nb : List (Int × Str)} (hdm : (d, od) ∈ news) (hod : DictIs PySem.Challenge.rw_rh0209_01.row.prog w od (ifaceSp nl)) (hnl : (nl, W.listOf vs.toArray n) ∈ news) (hnb : NbAre w news vs nb)
    (hst : ∀ a ∈ nb, a.2 ∈ hereL ∨ a.2 ∈ goneL) (hid : (nb.map (·.1)).Nodup) (hlen : nb.length ≤ 12)
    (B : Below A₀ base outer h₀) (F : Fr h₀ L s.heap m) (X : (hd.heap_39 w.params).In h₀) (N : News h₀ L s.heap news) (T : Top hd.view_39 LW mean mg mb h₀) (hk : cs.kind = .function)
    (hdp : dp + 3 < recursionLimit)
    (ret : ∀ (D k : Addr) (t0 t1 t2 t3 t4 t5 t6 t7 : Tok) vs' h' tk', Fr h₀ L h' m → News h₀ L h' ((D, ({ cls := .type "tuple", data := .seq #[.str (Str.ofString "hello") t0, .int 24 t1, .int 10 t2, .int 2 t3, .int 1 t4, .int 40 t5, .int 0 t6, .int 0 t7, .ref k] 0 } : Obj)) :: (k, ({ cls := .type "tuple", data := .seq vs'.toArray 0 } : Obj)) :: news) → (∀ p ∈ news, p.1 < k) → @LT.lt Nat _ k D → IntsAre vs' ((srt ((nb.filter fun a => told a.2).map fun a => a.1)).take (16367 : Int).toNat) → Q (.ref D) { s with heap := h', toks := tk' }) :
    wpAny (model Prg w) (ktrTop dp un gd cn cs L a ccd cl outer) (call (.ref 56) [.ref d]) Q E s := by
  revert X; unfold Prg; k_fill; w_top off; intro X
  refine wpAny_call ?_
  k_dflt cell_enter
  iterate 12 (first | (k_unfold; (try dsimp only)) | (k_end; wrow_close) | walk1 | (dsimp only; walk1) | (leave1; walk_say "STEP leave1"; try dsimp only))
  refine LCt.CompSrcT.ledger (k := n) (by rfl) (by k_asm) (by k_asm) hnl ?_ ?_
  · rw [sizeLine_eq, List.size_toArray, hnb.1]; omega
  intro g₁
  refine comp_filter (items := nb) (Rl := NbIs w news) (fun a => told a.2) (fun a => a.1) (by rw [List.size_toArray, hnb.1]) (fun i v hv hi => hnb.2 i v (by simpa using hv)) ?_ ?_ ?_
  · intro v a I oI C oC D m₂ ys h tk E' ha hR hk hC hx F₁ N₁ off ne
    obtain ⟨ad, o, rfl, hm, hD⟩ := hR
    have hb : (true = true ∧ a.2 ∈ hereL) ∨ (true = false ∧ a.2 ∈ goneL) := .inl ⟨rfl, List.contains_iff_mem.mp hk⟩
    (try k_fold)
    k_steps
    exact LCg.CompEnd.intro (by assumption) (by assumption) news (fun p hp => hp) off (.inr ⟨_, hnl, rfl, _, rfl⟩) ⟨rfl, _, rfl⟩
  · intro v a I oI C oC D m₂ ys h tk E' ha hR hk hC hx F₁ N₁ off ne
    obtain ⟨ad, o, rfl, hm, hD⟩ := hR
    have hb : (false = true ∧ a.2 ∈ hereL) ∨ (false = false ∧ a.2 ∈ goneL) := .inr ⟨rfl, (hst a ha).resolve_left fun h => by
      have h' : told a.2 = true := List.contains_iff_mem.mpr h
      have hk' : told a.2 = false := hk
      rw [h'] at hk'; cases hk'⟩
    (try k_fold)
    k_steps
    exact LCg.CompEnd.intro (by assumption) (by assumption) news (fun p hp => hp) off (.inr ⟨_, hnl, rfl, _, rfl⟩) rfl
  · intro ys hys
    have hTl : (List.map (fun a => a.1) (List.filter (fun a => told a.2) nb)).length ≤ 12 := by
      rw [List.length_map]; exact Nat.le_trans (List.length_filter_le _ _) hlen
    have hTn : (List.map (fun a => a.1) (List.filter (fun a => told a.2) nb)).Nodup := List.Nodup.sublist (List.Sublist.map _ List.filter_sublist) hid
    obtain ⟨Tl, hT⟩ : ∃ Tl, Tl = List.map (fun a => a.1) (List.filter (fun a => told a.2) nb) := ⟨_, rfl⟩
    rw [← hT] at hys hTl hTn
    k_steps
    · refine LCg.CompSrc.ledger (by rfl) (by k_asm) (by k_asm) (by k_mem) ?_ ?_
      · rw [sizeLine_eq, List.size_toArray, IntsAre.length (by assumption), srt_length]; omega
      intro g₂
      refine comp_grow (items := srt Tl) (Rl := fun v k => ∃ t, v = .int k t) (El := fun nw y k => ∃ ad t c, y = .ref ad ∧ (ad, ({ cls := .type "tuple", data := .seq #[.int k t, .bool true] c } : Obj)) ∈ nw) ?_ ?_ ?_ ?_ ?_
      · rintro nw nw' y a hs ⟨ad, t, c, rfl, hm⟩
        exact ⟨ad, t, c, rfl, hs _ hm⟩
      · rw [List.size_toArray, IntsAre.length (by assumption)]
      · intro i v hv _
        obtain ⟨k, t, e, hk⟩ := IntsAre.at (by assumption) i v (by simpa using hv)
        exact ⟨k, hk, t, e⟩
      · intro nws v a I oI C oC D m₂ ys h tk E' hsub ha hR hC hx F₁ N₁ off ne
        obtain ⟨ta, rfl⟩ := hR
        (try k_fold)
        k_steps
        refine LCg.CompEnd.intro (by assumption) (by assumption) ((_, ({ cls := .type "tuple", data := .seq #[.int a ta, .bool true] 0 } : Obj)) :: nws) (fun p hp => ?_) ⟨?_, off⟩ (.inr ⟨_, List.mem_cons_of_mem _ (hsub _ (by k_mem)), rfl, _, rfl⟩) ⟨fun p hp => List.mem_cons_of_mem _ hp, _, ta, 0, rfl, List.mem_cons_self⟩
        · simp only [List.mem_cons] at hp ⊢
          rcases hp with h | h | h | h | h
          · exact .inr (.inl h)
          · exact .inr (.inr (.inl h))
          · exact .inr (.inr (.inr (.inl h)))
          · exact .inl h
          · exact .inr (.inr (.inr (.inr h)))
        · have hl := (by assumption : @LT.lt Nat _ I _ ∧ @LT.lt Nat _ C _ ∧ @LT.lt Nat _ D _ ∧ AllLt _ nws)
          exact ⟨Nat.ne_of_gt hl.1, Nat.ne_of_gt hl.2.1, Nat.ne_of_gt hl.2.2.1⟩
      · intro ys nws hsub hyl hyp
        have hPA : PairsAre nws ys (srt Tl) := ⟨hyl, fun i v hv => by obtain ⟨k, hk, ad, t, c, r1, hm⟩ := hyp i v hv; exact ⟨ad, t, k, c, r1, hk, hm⟩⟩
        have hup : ∀ p ∈ news, p ∈ nws := fun p hp => hsub p (List.mem_cons_of_mem _ (List.mem_cons_of_mem _ hp))
        have hdm' := hup _ hdm
        k_steps
        rename Fr _ _ _ _ => F₂; rename News _ _ _ _ => N₂; rename IntsAre _ _ => hI
        subst hT
        exact ret _ _ _ _ _ _ _ _ _ _ _ _ _ F₂ (cb_drop N₂ (by
          refine List.forall_mem_cons.mpr ⟨List.mem_cons_self, List.forall_mem_cons.mpr ⟨by k_mem, fun p hp => ?_⟩⟩
          repeat (first | exact hup p hp | apply List.mem_cons_of_mem))) (fun p hp => lt_of_all (by assumption) p (by repeat (first | exact hup p hp | apply List.mem_cons_of_mem))) (by omega) hI
    · rename Fr _ _ _ _ => F₂; rename News _ _ _ _ => N₂; rename IntsAre _ _ => hI
      subst hT
      exact ret _ _ _ _ _ _ _ _ _ _ _ _ _ F₂ (cb_drop N₂ (by
        refine List.forall_mem_cons.mpr ⟨List.mem_cons_self, List.forall_mem_cons.mpr ⟨by k_mem, fun p hp => ?_⟩⟩
        repeat (first | exact hp | apply List.mem_cons_of_mem))) (fun p hp => lt_of_all (by assumption) p (by repeat (first | exact hp | apply List.mem_cons_of_mem))) (by omega) hI
end Mine
end
section
open PySem PySem.W PyProof.Rows
set_option maxRecDepth 100000
set_option maxHeartbeats 1200000
namespace Mine
local macro_rules | `(tactic| k_room) => `(tactic| ktr_room)
local macro_rules | `(tactic| k_units) => `(tactic| ktr_units)
variable {w : World} {mean : ExcName → Option Value} {mg mb : Str → Option Value} {dp un : Nat} {gd : Option (List Code)} {cn : Str} {cs : Scope} {a : Addr} {ccd : Value} {cl : List (Str × Addr)} {outer : List Env} {A₀ : Around} {base h₀ : Heap} {L : Addr} {m : Str → Option Value} {news : List (Addr × Obj)} {s : Shared} {Q E : Value → Shared → Prop}


def wordsL : List Str := [Str.ofString "hello", Str.ofString "dd", Str.ofString "request", Str.ofString "update", Str.ofString "ack"]
theorem words_method {A : Around} {pl : Sem Bool} {Q : Value × List Value → Shared → Prop} (F : Fr h₀ L s.heap m) (X : (hd.heap_39 w.params).In h₀) (h : Q (.builtin "tuple.index", [.ref 190]) s) :
    wpAny (model PySem.Challenge.rw_rh0209_01.row.prog w) A (getMethod (.ref 190) (Str.ofString "index") pl) Q E s := by
  revert X; k_fill; intro X
  have X' := Frag.In.keeps X F.keep
  k_dflt (refine' tup_index_method X' ?k1 h; (case k1 => k_is))
theorem words_index {A : Around} {t : Tok} {Q : Value → Shared → Prop} (F : Fr h₀ L s.heap m) (X : (hd.heap_39 w.params).In h₀)
    (h : ∀ t' k', Q (.int 0 t') { s with toks := k' }) : wpAny (model PySem.Challenge.rw_rh0209_01.row.prog w) A (call (.builtin "tuple.index") [.ref 190, .str (Str.ofString "hello") t]) Q E s := by
  revert X; k_fill; intro X
  have X' := Frag.In.keeps X F.keep
  k_dflt (refine' tup_index (ws := wordsL) (j := 0) (tupK X' ?k1) ?k4 rfl (fun m hm => absurd hm (Nat.not_lt_zero _)) h; (case k1 => k_is); (case k4 => exact .cons _ _ (.cons _ _ (.cons _ _ (.cons _ _ (.cons _ _ .nil))))))
local macro_rules | `(tactic| walk_at "getMethod ref") => `(tactic| (k_here; k_dflt (refine' words_method ?F ?X ?_; (case F => k_asm); (case X => k_asm))))
local macro_rules | `(tactic| walk_at "call builtin:tuple.index") => `(tactic| (k_here; k_dflt (refine' words_index ?F ?X ?_; (case F => k_asm); (case X => k_asm)); intro t' k'; (try dsimp only)))
local macro_rules | `(tactic| k_mem) => `(tactic| first | assumption | exact List.mem_cons_self | (refine List.mem_cons_of_mem _ ?_; k_mem))
theorem packet_of_c {p k : Addr} {t0 t1 t2 t3 t4 t5 t6 t7 u1 u2 : Tok} {n₁ : Nat} (hp : (p, ({ cls := .type "tuple", data := .seq #[.str (Str.ofString "hello") t0, .int 24 t1, .int 10 t2, .int 2 t3, .int 1 t4, .int 40 t5, .int 0 t6, .int 0 t7, .ref k] n₁ } : Obj)) ∈ news)
    (B : Below A₀ base outer h₀) (F : Fr h₀ L s.heap m) (X : (hd.heap_39 w.params).In h₀) (N : News h₀ L s.heap news) (T : Top hd.view_39 LW mean mg mb h₀) (hk : cs.kind = .function)
    (hdp : dp + 2 < recursionLimit)
    (ret : ∀ r u0 n₃ h' tk', Fr h₀ L h' m → News h₀ L h' ((r, ({ cls := .type "tuple", data := .seq #[.int 1 u0, .int 70 u1, .int 3 u2, .ref p] n₃ } : Obj)) :: news) → (∀ q ∈ news, q.1 < r) → Q (.ref r) { s with heap := h', toks := tk' }) :
    wpAny (model Prg w) (ktrTop dp un gd cn cs L a ccd cl outer) (call (.ref 233) [.int 70 u1, .int 3 u2, .ref p]) Q E s := by
  revert X; unfold Prg; k_fill; w_top off; intro X
  refine wpAny_call ?_
  k_dflt cell_enter
  k_steps
  rename Fr _ _ _ _ => F₂; rename News _ _ _ _ => N₂
  exact ret _ _ _ _ _ F₂ N₂ (by assumption)
end Mine
end
section
open PySem PySem.Spec PySem.Calls PySem.W PyProof.Rows
set_option maxRecDepth 100000
namespace Mine
section
variable {prog : Program} {w : World} {A : Around} {E : Value → Shared → Prop} {s : Shared} {h₀ : Heap} {L : Addr} {m : Str → Option Value} {env : Env}
/-- a comprehension over range(M), its elements of any kind -/
theorem src_range {M : Int} {El : List (Addr × Obj) → Value → Nat → Prop} {elt : Expr} {x : Str} {scope : Scope} {cl : List (Str × Addr)} {Fin : Shared → List Value → List (Addr × Obj) → Prop} {r : Addr} {t u v : Tok} {news : List (Addr × Obj)} {s₁ : Shared}
    (hh : A.handled = none) (F : Fr h₀ L s₁.heap m) (N : News h₀ L s₁.heap news) (hr : IsRange s₁.heap r 0 M 1 t u v) (hM0 : 0 ≤ M) (hM1 : M ≤ 100)
    (mono : ∀ nw nw' y a, (∀ p ∈ nw, p ∈ nw') → El nw y a → El nw' y a)
    (turn : ∀ g nws (k : Nat) t I oI C oC D m₂ ys h tk (E' : Value → Shared → Prop), (∀ p ∈ news, p ∈ nws) → (k : Int) < M → LCg.NsObj oC m₂ → m₂ x = some (.int (k : Int) t) → Fr h₀ L h m → News h₀ L h ((I, oI) :: (C, oC) :: (D, LCg.lst ys) :: nws) → LCg.Off3 I C D nws → ((@Ne Nat I C) ∧ (@Ne Nat I D) ∧ (@Ne Nat C D)) →
      wpAny (model prog w) A (eval elt (compEnvC scope cl C env)) (LCg.CompEnd h₀ L m { ({ s₁ with heap := g } : Shared) with heap := h, toks := tk } I oI C oC D (LCg.lst ys) (fun _ => True) (fun y news' => (∀ p ∈ nws, p ∈ news') ∧ El news' y k)) E' { ({ s₁ with heap := g } : Shared) with heap := h, toks := tk })
    (fin : ∀ g ys nws, (∀ p ∈ news, p ∈ nws) → ys.length = M.toNat → (∀ (i : Nat) (y : Value), ys[i]? = some y → El nws y i) → Fin { s₁ with heap := g } ys nws) :
    LCg.CompSrc prog w A h₀ L m env elt x scope cl Fin (.ref r) s₁ := by
  refine LCg.CompSrc.range (n := M.toNat) hh F N hr (small_one (by omega) (by omega) (by omega) (by omega)) (by have e := rangeSize_nat 0 M; rw [Int.sub_zero] at e; exact e) (by rw [sizeLine_eq]; omega) fun g => ?_
  refine comp_grow (items := List.range M.toNat) (Rl := fun v (k : Nat) => ∃ t, v = .int (k : Int) t) (El := El) mono (by simp) ?_ ?_ ?_
  · rintro i v ⟨t, rfl⟩ hi
    exact ⟨i, by simp [hi], t, by rw [Int.zero_add]⟩
  · rintro nws v a I oI C oC D m₂ ys h tk E' hsub ha ⟨t, rfl⟩ hC hx F' N' off ne
    exact turn g nws a t I oI C oC D m₂ ys h tk E' hsub (by have := List.mem_range.mp ha; omega) hC hx F' N' off ne
  · intro ys nws hsub hlen hE
    refine fin g ys nws hsub (by simpa using hlen) fun i y hi => ?_
    obtain ⟨a, ha, hy⟩ := hE i y hi
    have : i = a := by
      have hlt : i < (List.range M.toNat).length := by
        rcases Nat.lt_or_ge i (List.range M.toNat).length with h | h
        · exact h
        · rw [List.getElem?_eq_none h] at ha; cases ha
      rw [List.getElem?_eq_getElem hlt, List.getElem_range] at ha
      exact Option.some.inj ha
    subst this
    exact hy
end
end Mine
end
section
open PySem PySem.Spec PySem.Calls PySem.W PyProof.Rows
set_option maxRecDepth 100000
namespace Mine
section
variable {prog : Program} {w : World} {A : Around} {E : Value → Shared → Prop} {s : Shared} {h₀ : Heap} {L : Addr} {m : Str → Option Value} {env : Env}
/-- a comprehension over range(M) whose turns make nothing -/
theorem src_range_c {M : Int} {El : Value → Nat → Prop} {elt : Expr} {x : Str} {scope : Scope} {cl : List (Str × Addr)} {Fin : Shared → List Value → List (Addr × Obj) → Prop} {r : Addr} {t u v : Tok} {news : List (Addr × Obj)} {s₁ : Shared}
    (hh : A.handled = none) (F : Fr h₀ L s₁.heap m) (N : News h₀ L s₁.heap news) (hr : IsRange s₁.heap r 0 M 1 t u v) (hM0 : 0 ≤ M) (hM1 : M ≤ 100)
    (turn : ∀ g (k : Nat) t I oI C oC D m₂ ys h tk (E' : Value → Shared → Prop), (k : Int) < M → LCg.NsObj oC m₂ → m₂ x = some (.int (k : Int) t) → Fr h₀ L h m → News h₀ L h ((I, oI) :: (C, oC) :: (D, LCg.lst ys) :: news) → LCg.Off3 I C D news → ((@Ne Nat I C) ∧ (@Ne Nat I D) ∧ (@Ne Nat C D)) →
      wpAny (model prog w) A (eval elt (compEnvC scope cl C env)) (LCg.CompEnd h₀ L m { ({ s₁ with heap := g } : Shared) with heap := h, toks := tk } I oI C oC D (LCg.lst ys) (fun _ => True) (fun y news' => news' = news ∧ El y k)) E' { ({ s₁ with heap := g } : Shared) with heap := h, toks := tk })
    (fin : ∀ g ys, ys.length = M.toNat → (∀ (i : Nat) (y : Value), ys[i]? = some y → El y i) → Fin { s₁ with heap := g } ys news) :
    LCg.CompSrc prog w A h₀ L m env elt x scope cl Fin (.ref r) s₁ := by
  refine LCg.CompSrc.range (n := M.toNat) hh F N hr (small_one (by omega) (by omega) (by omega) (by omega)) (by have e := rangeSize_nat 0 M; rw [Int.sub_zero] at e; exact e) (by rw [sizeLine_eq]; omega) fun g => ?_
  have key : ∀ (j i : Nat) (ys : List Value), i + j = M.toNat → ys.length = i → (∀ (i : Nat) (y : Value), ys[i]? = some y → El y i) → LCg.CompRest prog w A h₀ L m env elt x scope cl { s₁ with heap := g } (fun _ => True) (fun i v => ∃ t, v = .int (0 + (i : Int)) t) (Fin { s₁ with heap := g }) j i ys news := by
    intro j
    induction j with
    | zero =>
      intro i ys hi hy hE
      exact LCg.CompRest.zero (fin g ys (by omega) hE)
    | succ j ih =>
      intro i ys hi hy hE
      refine LCg.CompRest.succ ?_
      rintro v I oI C oC D m₂ h tk E' ⟨t, rfl⟩ hC hx F N off ne
      rw [Int.zero_add] at hx
      refine wpAny_mono (turn g i t I oI C oC D m₂ ys h tk E' (by omega) hC hx F N off ne) (fun y s₂ hq => ?_) fun _ _ e => e
      obtain ⟨h', tk', nw, e, F', N', off', hS, rfl, hy'⟩ := hq
      refine ⟨h', tk', _, e, F', N', off', hS, ih (i + 1) _ (by omega) (by rw [List.length_append, hy]; rfl) ?_⟩
      intro i' y' hi'
      rcases Nat.lt_trichotomy i' ys.length with h1 | h1 | h1
      · rw [List.getElem?_append_left h1] at hi'
        exact hE i' y' hi'
      · subst h1
        have hb : y = y' := by simpa using hi'
        subst hb
        rw [hy]; exact hy'
      · rw [List.getElem?_eq_none (by rw [List.length_append, List.length_singleton]; omega)] at hi'
        cases hi'
  exact key _ 0 [] (by omega) rfl (fun i y h => by simp at h)
end
end Mine
end
section
open PySem PySem.Spec PySem.Calls PySem.W PyProof.Rows
set_option maxRecDepth 100000
namespace Mine
theorem sub_mem {p : Addr × Obj} {a b : List (Addr × Obj)} (hs : ∀ q ∈ a, q ∈ b) (h : p ∈ a) : p ∈ b := hs p h
section
variable {prog : Program} {w : World} {A : Around} {E : Value → Shared → Prop} {s : Shared} {h₀ : Heap} {L : Addr} {m : Str → Option Value} {env : Env}
theorem item_at {value slice : PySem.Expr} {l : Addr} {vs : List Value} {n k : Nat} {u : Tok} {v : Value} {news : List (Addr × Obj)} {Q : Value → Shared → Prop}
    (N : News h₀ L s.heap news) (hm : (l, W.listOf vs.toArray n) ∈ news) (hx : vs[k]? = some v) (hfit : k < 1000) (h : Q v s)
    (hs : subscripted slice false (.ref l) (.int (k : Int) u) = operate [.ref l, .int (k : Int) u] (getItem (.ref l) (.int (k : Int) u)) := by with_unfolding_all rfl) :
    wpAny (model prog w) A (subscriptTail value slice (.ref l) (.int (k : Int) u)) Q E s :=
  have hl : s.heap.IsList l vs.toArray := ⟨_, (N _ hm).1, rfl, n, rfl⟩
  tail_any hl.typeIs slot_list_getitem.lookup (wpAny_getItem_list hl (by omega) (by omega) (by simpa using hx) h) hs
/-- a comprehension over range(M) with a test: its ints -/
theorem src_range_t {M : Int} (keep : Nat → Bool) (val : Nat → Int) {ct elt : Expr} {x : Str} {scope : Scope} {cl : List (Str × Addr)} {Fin : Shared → List Value → List (Addr × Obj) → Prop} {r : Addr} {t u v : Tok} {news : List (Addr × Obj)} {s₁ : Shared}
    (hh : A.handled = none) (F : Fr h₀ L s₁.heap m) (N : News h₀ L s₁.heap news) (hr : IsRange s₁.heap r 0 M 1 t u v) (hM0 : 0 ≤ M) (hM1 : M ≤ 100)
    (turnT : ∀ g (k : Nat) t I oI C oC D m₂ ys h tk (E' : Value → Shared → Prop), (k : Int) < M → keep k = true → LCg.NsObj oC m₂ → m₂ x = some (.int (k : Int) t) → Fr h₀ L h m → News h₀ L h ((I, oI) :: (C, oC) :: (D, LCg.lst ys) :: news) → LCg.Off3 I C D news → ((@Ne Nat I C) ∧ (@Ne Nat I D) ∧ (@Ne Nat C D)) →
      wpAny (model prog w) A (isTrue ct (compEnvC scope cl C env) (eval ct (compEnvC scope cl C env))) (fun ok s' => if ok = true then
        wpAny (model prog w) A (eval elt (compEnvC scope cl C env)) (LCg.CompEnd h₀ L m { ({ s₁ with heap := g } : Shared) with heap := h, toks := tk } I oI C oC D (LCg.lst ys) (fun _ => True) (fun y news' => news' = news ∧ ∃ t, y = .int (val k) t)) E' s' else False) E' { ({ s₁ with heap := g } : Shared) with heap := h, toks := tk })
    (turnF : ∀ g (k : Nat) t I oI C oC D m₂ ys h tk (E' : Value → Shared → Prop), (k : Int) < M → keep k = false → LCg.NsObj oC m₂ → m₂ x = some (.int (k : Int) t) → Fr h₀ L h m → News h₀ L h ((I, oI) :: (C, oC) :: (D, LCg.lst ys) :: news) → LCg.Off3 I C D news → ((@Ne Nat I C) ∧ (@Ne Nat I D) ∧ (@Ne Nat C D)) →
      wpAny (model prog w) A (isTrue ct (compEnvC scope cl C env) (eval ct (compEnvC scope cl C env))) (fun ok s' => if ok = true then False
        else LCg.CompEnd h₀ L m { ({ s₁ with heap := g } : Shared) with heap := h, toks := tk } I oI C oC D (LCg.lst ys) (fun _ => True) (fun _ news' => news' = news) Value.none s') E' { ({ s₁ with heap := g } : Shared) with heap := h, toks := tk })
    (fin : ∀ g ys, IntsAre ys (((List.range M.toNat).filter keep).map val) → Fin { s₁ with heap := g } ys news) :
    LCt.CompSrcT prog w A h₀ L m env ct elt x scope cl Fin (.ref r) s₁ := by
  refine LCt.CompSrcT.range (n := M.toNat) hh F N hr (small_one (by omega) (by omega) (by omega) (by omega)) (by have e := rangeSize_nat 0 M; rw [Int.sub_zero] at e; exact e) (by rw [sizeLine_eq]; omega) fun g => ?_
  refine comp_filter (items := List.range M.toNat) (Rl := fun v (k : Nat) => ∃ t, v = .int (k : Int) t) keep val (by simp) ?_ ?_ ?_ (fin g)
  · rintro i v ⟨t, rfl⟩ hi
    exact ⟨i, by simp [hi], t, by rw [Int.zero_add]⟩
  · rintro v a I oI C oC D m₂ ys h tk E' ha ⟨t, rfl⟩ hk hC hx F' N' off ne
    exact turnT g a t I oI C oC D m₂ ys h tk E' (by have := List.mem_range.mp ha; omega) hk hC hx F' N' off ne
  · rintro v a I oI C oC D m₂ ys h tk E' ha ⟨t, rfl⟩ hk hC hx F' N' off ne
    exact turnF g a t I oI C oC D m₂ ys h tk E' (by have := List.mem_range.mp ha; omega) hk hC hx F' N' off ne
end
theorem ids_at {vs : List Value} {f : Int → Int} {M : Int} {k : Nat} (hI : IntsAre vs (List.map f (rangeKs 0 (M - 0).toNat))) (hk : (k : Int) < M) : ∃ t, vs[k]? = some (.int (f k) t) := by
  have hlen : vs.length = (M - 0).toNat := by rw [hI.length, List.length_map, rangeKs_length]
  have hlt : k < vs.length := by omega
  obtain ⟨n, t, e1, e2⟩ := hI.at k vs[k] (List.getElem?_eq_getElem hlt)
  refine ⟨t, ?_⟩
  rw [List.getElem?_eq_getElem hlt, e1]
  have : n = f k := by
    unfold rangeKs at e2
    rw [List.getElem?_map, List.getElem?_map, List.getElem?_range (by omega)] at e2
    have e := Option.some.inj e2
    rw [← e]
    simp
  rw [this]
theorem sts_at {vs : List Value} {f : Nat → Str} {M : Int} {k : Nat} (hl : vs.length = M.toNat) (hE : ∀ (i : Nat) (y : Value), vs[i]? = some y → ∃ t, y = Value.str (f i) t) (hk : (k : Int) < M) : ∃ t, vs[k]? = some (.str (f k) t) := by
  have hlt : k < vs.length := by omega
  obtain ⟨t, e⟩ := hE k vs[k] (List.getElem?_eq_getElem hlt)
  exact ⟨t, by rw [List.getElem?_eq_getElem hlt, e]⟩
theorem nb_of {w : World} {nws : List (Addr × Obj)} {ws : List Value} {f : Int → Int} {g : Nat → Str} {n : Nat} (hl : ws.length = n) (h : ∀ (i : Nat) (y : Value), ws[i]? = some y → NbIs w nws y (f i, g i)) : NbAre w nws ws ((List.range n).map fun (k : Nat) => (f (k : Int), g k)) := by
  refine ⟨by rw [hl, List.length_map, List.length_range], fun i v hv => ⟨_, ?_, h i v hv⟩⟩
  have hlt : i < n := by
    rcases Nat.lt_or_ge i ws.length with h | h
    · omega
    · rw [List.getElem?_eq_none h] at hv; cases hv
  rw [List.getElem?_map, List.getElem?_range hlt]; rfl
theorem NbIs.up {w : World} {nw nw' : List (Addr × Obj)} {v : Value} {a : Int × Str} (hs : ∀ p ∈ nw, p ∈ nw') (h : NbIs w nw v a) : NbIs w nw' v a := let ⟨ad, o, e, hm, hd⟩ := h; ⟨ad, o, e, hs _ hm, hd⟩
theorem NbAre.up {w : World} {nw nw' : List (Addr × Obj)} {vs : List Value} {nb : List (Int × Str)} (hs : ∀ p ∈ nw, p ∈ nw') (h : NbAre w nw vs nb) : NbAre w nw' vs nb := ⟨h.1, fun i v hv => let ⟨a, e, hn⟩ := h.2 i v hv; ⟨a, e, hn.up hs⟩⟩
end Mine
end
section
open PySem PySem.Spec PySem.Calls PySem.W PyProof.Rows
set_option maxRecDepth 100000
namespace Mine
theorem off1_at {D a : Addr} {o : Obj} : ∀ {news : List (Addr × Obj)}, LCg.Off1 D news → (a, o) ∈ news → @Ne Nat a D
  | [], _, h => nomatch h
  | _ :: _, x, h => by
    rcases List.mem_cons.mp h with e | h
    · subst e; exact x.1
    · exact off1_at x.2 h
theorem off1_sub {D : Addr} {b : List (Addr × Obj)} (x : LCg.Off1 D b) : ∀ {a : List (Addr × Obj)}, (∀ p ∈ a, p ∈ b) → LCg.Off1 D a
  | [], _ => trivial
  | (_, _) :: _, hs => ⟨off1_at x (hs _ List.mem_cons_self), off1_sub x fun p hp => hs p (List.mem_cons_of_mem _ hp)⟩
theorem finE_sub {h₀ : Heap} {L : Addr} {m : Str → Option Value} {s : Shared} {Q : Value → Shared → Prop} {ys : List Value} {a b : List (Addr × Obj)} (hs : ∀ p ∈ a, p ∈ b) (h : LCg.FinE h₀ L m s Q ys a) : LCg.FinE h₀ L m s Q ys b := by
  intro D h' tk F N o1
  refine h D h' tk F (fun p hp => N p ?_) (off1_sub o1 hs)
  rcases List.mem_cons.mp hp with e | hp
  · exact e ▸ List.mem_cons_self
  · exact List.mem_cons_of_mem _ (hs p hp)
theorem fresh_ne {news rest : List (Addr × Obj)} {d : Addr} {o : Obj} (hf : ∀ q ∈ news, ∀ p ∈ rest, @Ne Nat p.1 q.1) (hm : (d, o) ∈ news) : ∀ p ∈ rest, p.1 ≠ d := fun p hp => hf _ hm p hp
section
variable {prog : Program} {w : World} {A : Around} {E : Value → Shared → Prop} {s : Shared} {h₀ : Heap} {L : Addr} {m : Str → Option Value} {env : Env}
/-- a comprehension over range(M), each element a new object -/
theorem src_objs {M : Int} {P : Obj → Nat → Prop} {elt : Expr} {x : Str} {scope : Scope} {cl : List (Str × Addr)} {Fin : Shared → List Value → List (Addr × Obj) → Prop} {r : Addr} {t u v : Tok} {news : List (Addr × Obj)} {s₁ : Shared}
    (hh : A.handled = none) (F : Fr h₀ L s₁.heap m) (N : News h₀ L s₁.heap news) (hr : IsRange s₁.heap r 0 M 1 t u v) (hM0 : 0 ≤ M) (hM1 : M ≤ 100)
    (fsub : ∀ s ys a b, (∀ p ∈ a, p ∈ b) → Fin s ys a → Fin s ys b)
    (turn : ∀ g nws (k : Nat) t I oI C oC D m₂ ys h tk (E' : Value → Shared → Prop), (∀ p ∈ news, p ∈ nws) → (k : Int) < M → LCg.NsObj oC m₂ → m₂ x = some (.int (k : Int) t) → Fr h₀ L h m → News h₀ L h ((I, oI) :: (C, oC) :: (D, LCg.lst ys) :: nws) → LCg.Off3 I C D nws → ((@Ne Nat I C) ∧ (@Ne Nat I D) ∧ (@Ne Nat C D)) →
      wpAny (model prog w) A (eval elt (compEnvC scope cl C env)) (LCg.CompEnd h₀ L m { ({ s₁ with heap := g } : Shared) with heap := h, toks := tk } I oI C oC D (LCg.lst ys) (fun _ => True) (fun y news' => (∀ p ∈ nws, p ∈ news') ∧ ∃ ad o, y = .ref ad ∧ (ad, o) ∈ news' ∧ P o k ∧ ∀ q ∈ nws, @LT.lt Nat _ q.1 ad)) E' { ({ s₁ with heap := g } : Shared) with heap := h, toks := tk })
    (fin : ∀ g ys rest, (∀ q ∈ news, ∀ p ∈ rest, @Ne Nat p.1 q.1) → ys.length = M.toNat → (∀ (i : Nat) (y : Value), ys[i]? = some y → ∃ ad o, y = .ref ad ∧ (ad, o) ∈ rest ∧ P o i) → Fin { s₁ with heap := g } ys (news ++ rest)) :
    LCg.CompSrc prog w A h₀ L m env elt x scope cl Fin (.ref r) s₁ := by
  refine src_range (El := fun nw y k => ∃ ad o, y = .ref ad ∧ (ad, o) ∈ nw ∧ P o k ∧ ∀ q ∈ news, @LT.lt Nat _ q.1 ad) hh F N hr hM0 hM1 ?_ ?_ ?_
  · rintro nw nw' y k hs ⟨ad, o, e, hm, hp, hl⟩
    exact ⟨ad, o, e, hs _ hm, hp, hl⟩
  · intro g nws k t I oI C oC D m₂ ys h tk E' hsub hk hC hx F' N' off ne
    refine wpAny_mono (turn g nws k t I oI C oC D m₂ ys h tk E' hsub hk hC hx F' N' off ne) (fun y s₂ hq => ?_) fun _ _ e => e
    obtain ⟨h', tk', nw, e, F', N', off', hS, hup, ad, o, e2, hm, hp, hl⟩ := hq
    exact ⟨h', tk', nw, e, F', N', off', hS, hup, ad, o, e2, hm, hp, fun q hq => hl q (hsub q hq)⟩
  · intro g ys nws hsub hlen hE
    refine fsub _ _ (news ++ nws.filter fun p => news.all fun q => decide (@Ne Nat p.1 q.1)) _ (fun p hp => ?_) (fin g ys _ ?_ hlen ?_)
    · rcases List.mem_append.mp hp with hp | hp
      · exact hsub p hp
      · exact (List.mem_filter.mp hp).1
    · intro q hq p hp
      exact of_decide_eq_true (List.all_eq_true.mp (List.mem_filter.mp hp).2 q hq)
    · intro i y hy
      obtain ⟨ad, o, e, hm, hp, hl⟩ := hE i y hy
      exact ⟨ad, o, e, List.mem_filter.mpr ⟨hm, List.all_eq_true.mpr fun q hq => decide_eq_true (Nat.ne_of_gt (hl q hq))⟩, hp⟩
end
end Mine
end
section
open PySem PySem.Spec PySem.Calls PySem.W PyProof.Rows
set_option maxRecDepth 100000
namespace Mine
theorem hello_inj {a s : Int} (ha0 : 1 ≤ a) (ha1 : a ≤ 1008) {i j : Nat} (hi : i < 12) (hj : j < 12) (h : 1 + Int.fmod (a * i + s) 1009 = 1 + Int.fmod (a * j + s) 1009) : i = j := by
  rw [Int.fmod_eq_emod_of_nonneg _ (by decide), Int.fmod_eq_emod_of_nonneg _ (by decide)] at h
  have h1 : (a * i + s) % 1009 = (a * j + s) % 1009 := by omega
  have h2 : (1009 : Int) ∣ a * ((i : Int) - j) := by
    have h3 := Int.emod_emod_of_dvd (a * i + s) (Int.dvd_refl 1009)
    have h4 : (1009 : Int) ∣ (a * i + s) - (a * j + s) := Int.dvd_of_emod_eq_zero (Int.emod_eq_emod_iff_emod_sub_eq_zero.mp h1)
    have e : (a * i + s) - (a * j + s) = a * ((i : Int) - j) := by rw [Int.mul_sub]; omega
    rw [← e]; exact h4
  rcases Nat.lt_trichotomy i j with hl | hl | hl
  · exfalso
    have hd : ∃ d : Nat, j = i + d ∧ 0 < d ∧ d < 12 := ⟨j - i, by omega, by omega, by omega⟩
    obtain ⟨d, rfl, d0, d1⟩ := hd
    have e : a * ((i : Int) - ((i + d : Nat) : Int)) = -(a * d) := by
      rw [show ((i : Int) - ((i + d : Nat) : Int)) = -(d : Int) from by omega, Int.mul_neg]
    rw [e] at h2
    have h5 : (1009 : Int) ∣ a * d := (Int.dvd_neg).mp h2
    have : d = 1 ∨ d = 2 ∨ d = 3 ∨ d = 4 ∨ d = 5 ∨ d = 6 ∨ d = 7 ∨ d = 8 ∨ d = 9 ∨ d = 10 ∨ d = 11 := by omega
    rcases this with rfl | rfl | rfl | rfl | rfl | rfl | rfl | rfl | rfl | rfl | rfl <;> omega
  · exact hl
  · exfalso
    have hd : ∃ d : Nat, i = j + d ∧ 0 < d ∧ d < 12 := ⟨i - j, by omega, by omega, by omega⟩
    obtain ⟨d, rfl, d0, d1⟩ := hd
    have e : a * (((j + d : Nat) : Int) - (j : Int)) = a * d := by
      rw [show (((j + d : Nat) : Int) - (j : Int)) = (d : Int) from by omega]
    rw [e] at h2
    have : d = 1 ∨ d = 2 ∨ d = 3 ∨ d = 4 ∨ d = 5 ∨ d = 6 ∨ d = 7 ∨ d = 8 ∨ d = 9 ∨ d = 10 ∨ d = 11 := by omega
    rcases this with rfl | rfl | rfl | rfl | rfl | rfl | rfl | rfl | rfl | rfl | rfl <;> omega
theorem told_here {x : Str} (h : x ∈ hereL) : told x = true := List.contains_iff_mem.mpr h
theorem gone_not : ∀ x ∈ goneL, x ∉ hereL := by decide +kernel
theorem told_gone {x : Str} (h : x ∈ goneL) : told x = false := by
  cases e : told x with
  | false => rfl
  | true => exact absurd (List.contains_iff_mem.mp e) (gone_not x h)
theorem nb_facts {mult shift : Int} (m0 : 0 ≤ mult) (m1 : mult < 1008) {here gone : Str} (hh : here ∈ hereL) (hg : gone ∈ goneL) {stf : Nat → Str} (hst : ∀ k, stf k = here ∨ stf k = gone)
    {M : Int} (hn : M ≤ 12) {idf : Int → Int} (hidf : (fun k' => 1 + Int.fmod ((1 + mult) * k' + shift) 1009) = idf) {nb : List (Int × Str)} (hnb : (List.range M.toNat).map (fun (k : Nat) => (idf (k : Int), stf k)) = nb)
    {nml : List Int} (hnml : ((List.range M.toNat).filter fun k => decide (stf k = here)).map (fun (k : Nat) => idf (k : Int)) = nml) :
    (∀ a ∈ nb, a.2 ∈ hereL ∨ a.2 ∈ goneL) ∧ (nb.map (·.1)).Nodup ∧ nb.length ≤ 12 ∧ (nb.filter fun a => told a.2).map (fun a => a.1) = nml ∧ nml.length ≤ 12 ∧ (∀ n ∈ nml, 0 ≤ n ∧ n < 4294967296) := by
  have hb : ∀ k, 0 ≤ idf k ∧ idf k < 4294967296 := by
    intro k
    rw [← hidf]
    have h0 := Int.fmod_nonneg_of_pos ((1 + mult) * k + shift) (show (0 : Int) < 1009 by decide)
    have h1 := Int.fmod_lt_of_pos ((1 + mult) * k + shift) (show (0 : Int) < 1009 by decide)
    dsimp only
    omega
  subst hnb; subst hnml
  refine ⟨?_, ?_, ?_, ?_, ?_, ?_⟩
  · intro a ha
    obtain ⟨k, _, rfl⟩ := List.mem_map.mp ha
    rcases hst k with e | e
    · exact .inl (by show stf k ∈ hereL; rw [e]; exact hh)
    · exact .inr (by show stf k ∈ goneL; rw [e]; exact hg)
  · rw [List.map_map]
    refine List.Pairwise.map (R := fun (a b : Nat) => a < b ∧ a < 12 ∧ b < 12) _ (fun a b hab e => ?_) ?_
    · have : a = b := by
        refine hello_inj (a := 1 + mult) (s := shift) (by omega) (by omega) hab.2.1 hab.2.2 ?_
        have e' : idf (a : Int) = idf (b : Int) := e
        rw [← hidf] at e'
        exact e'
      omega
    · have h1 : (List.range M.toNat).Pairwise (· < ·) := List.pairwise_lt_range
      refine List.Pairwise.imp_of_mem (fun {a b} ha hb h => ⟨h, ?_, ?_⟩) h1
      · have := List.mem_range.mp ha; omega
      · have := List.mem_range.mp hb; omega
  · rw [List.length_map, List.length_range]; omega
  · rw [List.filter_map, List.map_map]
    have e : (List.range M.toNat).filter ((fun a : Int × Str => told a.2) ∘ fun (k : Nat) => (idf (k : Int), stf k)) = (List.range M.toNat).filter fun k => decide (stf k = here) := by
      refine List.filter_congr fun k _ => ?_
      show told (stf k) = decide (stf k = here)
      rcases hst k with e | e
      · rw [e, told_here hh]; exact (decide_eq_true rfl).symm
      · rw [e, told_gone hg]
        refine (decide_eq_false fun h => ?_).symm
        rw [h] at hg
        exact gone_not _ hg hh
    rw [e]; rfl
  · rw [List.length_map]
    refine Nat.le_trans (List.length_filter_le _ _) ?_
    rw [List.length_range]; omega
  · intro n h
    obtain ⟨k, _, rfl⟩ := List.mem_map.mp h
    exact hb _
theorem iface_put {a b : Addr} : sput (ifaceSp a) (Str.ofString "neighbours") (.ref b) = ifaceSp b := by with_unfolding_all rfl
end Mine
end
section
open PySem PySem.Spec PySem.Calls PySem.W PyProof.Rows
set_option maxRecDepth 100000
namespace Mine
abbrev helloObj (t0 t1 t2 t3 t4 t5 t6 t7 : Tok) (k : Addr) (n : Nat) : Obj := { cls := .type "tuple", data := .seq #[.str (Str.ofString "hello") t0, .int 24 t1, .int 10 t2, .int 2 t3, .int 1 t4, .int 40 t5, .int 0 t6, .int 0 t7, .ref k] n }
section
variable {prog : Program} {w : World} {A : Around} {E : Value → Shared → Prop} {s : Shared} {h₀ : Heap} {L : Addr} {m : Str → Option Value} {env : Env}
theorem hello_reads {h : Heap} {news : List (Addr × Obj)} {D k : Addr} {t0 t1 t2 t3 t4 t5 t6 t7 : Tok} {n n' : Nat} {vs : List Value} {kp : List Int} (N : News h₀ L h news)
    (h1 : (D, ({ cls := .type "tuple", data := .seq #[.str (Str.ofString "hello") t0, .int 24 t1, .int 10 t2, .int 2 t3, .int 1 t4, .int 40 t5, .int 0 t6, .int 0 t7, .ref k] n } : Obj)) ∈ news) (h2 : (k, ({ cls := .type "tuple", data := .seq vs.toArray n' } : Obj)) ∈ news) (hi : IntsAre vs kp) :
    ∃ as, Reads h (.ref D) (.tuple [.str (Str.ofString "hello"), .int 24, .int 10, .int 2, .int 1, .int 40, .int 0, .int 0, .tuple (kp.map .int)]) as :=
  have r : Reads h (.ref k) (.tuple (kp.map .int)) [] := reads_tuple_at (N _ h2).1 rfl rfl (by simpa using hi.reads h)
  ⟨_, reads_tuple_at (N _ h1).1 rfl rfl (.cons (.str _ _) (.cons (.int _ _) (.cons (.int _ _) (.cons (.int _ _) (.cons (.int _ _) (.cons (.int _ _) (.cons (.int _ _) (.cons (.int _ _) (.cons r .nil)))))))))⟩
theorem hello_eqv (kp : List Int) : PyData.eqv (.tuple [.str (Str.ofString "hello"), .int 24, .int 10, .int 2, .int 1, .int 40, .int 0, .int 0, .tuple (kp.map .int)]) (.tuple [.str (Str.ofString "hello"), .int 24, .int 10, .int 2, .int 1, .int 40, .int 0, .int 0, .tuple (kp.map .int)]) = true := by
  simp [PyData.eqv, PyData.eqvAll, ked_eqvAll]
theorem hello_shaped (kp : List Int) : SeqAt.shaped (.tuple [.str (Str.ofString "hello"), .int 24, .int 10, .int 2, .int 1, .int 40, .int 0, .int 0, .tuple (kp.map .int)]) = true := by
  simp [SeqAt.shaped, PyData.canLay0, PyData.canLayAll0, PyData.depth, PyData.depthAll, ke_canLayAll0, ke_depthAll]
  decide +kernel
theorem hello_same {news : List (Addr × Obj)} {D k D₂ k₂ : Addr} {t0 t1 t2 t3 t4 t5 t6 t7 u0 u1 u2 u3 u4 u5 u6 u7 : Tok} {n n' n₂ n₂' : Nat} {vs ws : List Value} {kp : List Int} {Q : Value → Shared → Prop} (N : News h₀ L s.heap news)
    (h1 : (D, ({ cls := .type "tuple", data := .seq #[.str (Str.ofString "hello") t0, .int 24 t1, .int 10 t2, .int 2 t3, .int 1 t4, .int 40 t5, .int 0 t6, .int 0 t7, .ref k] n } : Obj)) ∈ news) (h2 : (k, ({ cls := .type "tuple", data := .seq vs.toArray n' } : Obj)) ∈ news)
    (h3 : (D₂, ({ cls := .type "tuple", data := .seq #[.str (Str.ofString "hello") u0, .int 24 u1, .int 10 u2, .int 2 u3, .int 1 u4, .int 40 u5, .int 0 u6, .int 0 u7, .ref k₂] n₂ } : Obj)) ∈ news) (h4 : (k₂, ({ cls := .type "tuple", data := .seq ws.toArray n₂' } : Obj)) ∈ news)
    (hi : IntsAre vs kp) (hj : IntsAre ws kp) (hu : A.units + 64 < cLine) (h : Q (.bool false) s) :
    wpAny (model prog w) A (compareOp .NotEq (.ref D) (.ref D₂)) Q E s := by
  obtain ⟨_, r1⟩ := hello_reads N h1 h2 hi
  obtain ⟨_, r2⟩ := hello_reads N h3 h4 hj
  exact ne_dataH r1 r2 (hello_shaped kp) (hello_shaped kp) hu (by rw [hello_eqv]; exact h)
theorem ints_tuple {l : Addr} {vs : List Value} {kp : List Int} {n : Nat} {news : List (Addr × Obj)} {Q : Value → Shared → Prop} (F : Fr h₀ L s.heap m) (N : News h₀ L s.heap news) (hm : (l, PySem.W.listOf vs.toArray n) ∈ news) (hi : IntsAre vs kp) (hz : kp.length ≤ 12)
    (h : ∀ D h', Fr h₀ L h' m → News h₀ L h' ((D, ({ cls := .type "tuple", data := .seq vs.toArray } : Obj)) :: news) → (∀ p ∈ news, p.1 < D) → Q (.ref D) { s with heap := h' }) : wpAny (model prog w) A (call (.type "tuple") [.ref l]) Q E s :=
  tuple_of_list F N hm (by rw [hi.length]; omega) h
end
theorem kp_facts {nml : List Int} {j : Nat} {kp : List Int} (he : List.take j (srt nml) = kp) (hL : nml.length ≤ 12) (hB : ∀ n ∈ nml, 0 ≤ n ∧ n < 4294967296) : kp.length ≤ 12 ∧ ∀ n ∈ kp, 0 ≤ n ∧ n < 4294967296 := by
  subst he
  refine ⟨?_, fun n hn => hB n ((srt_perm nml).mem_iff.mp (List.mem_of_mem_take hn))⟩
  rw [List.length_take, srt_length]; omega
theorem take_all {nml : List Int} (hL : nml.length ≤ 12) : List.take (16367 : Int).toNat (srt nml) = srt nml := List.take_of_length_le (by rw [srt_length]; exact Nat.le_trans hL (by decide))
end Mine
end
section
open PySem PySem.W PyProof.Rows
set_option maxRecDepth 100000
set_option maxHeartbeats 16000000
namespace Mine
theorem lmerge : smerge [(Str.ofString "number", .int 1), (Str.ofString "kind", .str (Str.ofString "broadcast")), (Str.ofString "area", .int 3), (Str.ofString "stub", .bool false), (Str.ofString "address", .int 5), (Str.ofString "length", .int 24), (Str.ofString "cost", .int 1)] [(Str.ofString "priority", .int 1), (Str.ofString "hello", .int 10), (Str.ofString "dead", .int 40), (Str.ofString "resend", .int 5)] = lineSp := by kernel_rfl
def Stop (P : Prop) : Prop := P
theorem Stop.of {P : Prop} (h : P) : Stop P := h
abbrev subj {x : Str} {l : List Str} (_ : x ∈ l) : Str := x
abbrev subjI {v b : Int} (_ : v < b) : Int := v
theorem Stop.mk {P : Prop} (h : Stop P) : P := h
theorem off1_ne {D a : Addr} {o : Obj} : ∀ {news : List (Addr × Obj)}, LCg.Off1 D news → (a, o) ∈ news → @Ne Nat a D
  | [], _, h => nomatch h
  | _ :: _, x, h => by
    rcases List.mem_cons.mp h with e | h
    · subst e; exact x.1
    · exact off1_ne x.2 h
theorem off1_ne' {D a : Addr} {o : Obj} {news : List (Addr × Obj)} (x : LCg.Off1 D news) (h : (a, o) ∈ news) : @Ne Nat D a := (off1_ne x h).symm
local macro_rules | `(tactic| k_ne) => `(tactic| (refine neN ?_; (try dsimp only); first | exact off1_ne (by with_reducible assumption) (by k_mem) | exact off1_ne' (by with_reducible assumption) (by k_mem) | omega))
local macro_rules | `(tactic| walk_at "FinE") => `(tactic| ((unfold LCg.FinE); intro D' h' tk' F' N' o1'; (try simp only [List.nil_append, List.cons_append] at N'); (try dsimp only)))
local macro_rules | `(tactic| walk_at "getMethod ref") => `(tactic| (k_here; k_dflt (refine' ds_method ?N ?p ?d ?_; (case N => k_asm); (case p => k_mem); (case d => assumption))))
local macro_rules | `(tactic| walk_at "callWith") => `(tactic| (k_here; (with_reducible refine' callWith_method1 ?_ ?cwe ?cwp); (case cwe => with_unfolding_all rfl); (case cwp => with_unfolding_all rfl)))
local macro_rules | `(tactic| walk_at "eval Dict") => `(tactic| (k_here; k_dflt (refine' kdn_str ?q ?F ?N ?b ?a ?l ?e ?n ?_; (case q => rfl); (case F => k_asm); (case N => first | k_asm | exact News.nil); (case b => exact Top.nolimit (by k_asm)); (case a => rfl); (case l => rfl); (case e => exact List.cons_ne_nil _ _); (case n => exact Nat.le_of_ble_eq_true rfl)); intro d' h' o' F' N' l1 lo' hd'; (try k_lt l1)))
local macro_rules | `(tactic| walk_at "KdnMade") => `(tactic| (k_here; k_dflt (refine' ds_made ?F ?N ?U ?d ?k ?n ?s ?_; (case F => k_asm); (case N => k_asm); (case U => k_updF); (case d => k_asm); (case k => rfl); (case n => exact of_decide_eq_true (by first | rfl | kernel_rfl!)); (case s => repeat' (first | exact PIs.nil | refine' PIs.cons ?_ ?_ | exact VIs.i | exact VIs.s | exact VIs.b | exact VIs.n | exact VIs.r))); (intro h' o' tk' F' N' hD'); (try dsimp only at N'); (try dsimp only)))
local macro_rules | `(tactic| walk_at "setItem ref str") => `(tactic| (k_here; k_dflt (refine' ds_set ?F ?N ?U ?d ?v ?z ?e ?_; (case F => k_asm); (case N => k_asm); (case U => k_updF); (case d => assumption); (case v => first | exact VIs.i | exact VIs.s | exact VIs.b | exact VIs.n | exact VIs.r); (case z => exact Nat.le_of_ble_eq_true rfl); (case e => exact rfl)); (intro h' o' tk' F' N' hD'); (try dsimp only at N'); (try dsimp only)))
local macro_rules | `(tactic| walk_at "call builtin:dict.update") => `(tactic| (k_here; k_dflt (refine' ds_update (res := lineSp) ?F ?N ?U ?d ?p ?e ?lo ?ne ?sz lmerge ?_; (case F => k_asm); (case N => k_asm); (case U => k_updF); (case d => assumption); (case p => k_mem); (case e => assumption); (case lo => assumption); (case ne => k_ne); (case sz => exact Nat.le_of_ble_eq_true rfl)); (intro h' o' F' N' hD'); (try dsimp only at N')))
local macro_rules | `(tactic| walk_at "call ref") => `(tactic| (k_here; (with_reducible show wpAny _ _ (call (Value.ref 43) [Value.ref _, Value.int _ _]) _ _ _); k_dflt (refine' new_iface_c ?hi ?ho ?hl ?k1 ?k2 ?k3 ?k4 ?k5 ?kK ?kd ?_; (case k1 => k_asm); (case k2 => k_asm); (case k3 => k_asm); (case k4 => k_asm); (case hi => k_mem); (case ho => assumption); (case hl => assumption); (case k5 => k_asm); (case kK => first | exact rfl | assumption); (case kd => ktr_room)); (intro d' nl' o' h' tk' F' N' l1 l2 lo' hD'); (try k_lt l1); (try dsimp only); (try k_fold)))
local macro_rules | `(tactic| walk_at "call ref") => `(tactic| (k_here; (with_reducible show wpAny _ _ (call (Value.ref 240) [Value.ref _, Value.int _ _]) _ _ _); k_dflt (refine' draw_u ?U ?a1 ?a2 ?a3 ?a4 ?a5 ?a6 ?a7 ?a8 ?k1 ?k2 ?k3 ?k4 ?k5 ?kK ?kd ?_; (case k1 => k_asm); (case k2 => k_asm); (case k3 => k_asm); (case k4 => k_asm); (case k5 => k_asm); (case kK => first | exact rfl | assumption); (case kd => ktr_room); (case U => (intro t'; k_upd)); (case a1 => k_mem); (case a2 => k_ne); (case a3 => l_ints); (case a4 => decide); (case a5 => decide); (case a6 => decide); (case a7 => decide); (case a8 => first | omega | (simp only [List.length_map, List.length_take]; omega))); (intro v' t' u' h' tk' hv0' hv1' F' N'); (try dsimp only); (try k_sweep); (try k_fold)))
local macro_rules | `(tactic| walk_at "subscriptTail") => `(tactic| (k_here; (with_reducible show wpAny _ _ (subscriptTail (Expr.Tuple _ _ _) _ (Value.ref _) (Value.int _ _)) _ _ _); k_dflt (refine' menu_text ?T ?W ?h0 ?h1 ?hf ?_; (case T => exact News.isTup (by k_asm) (by k_mem)); (case W => first | exact here_are | exact gone_are); (case h0 => assumption); (case h1 => assumption); (case hf => decide)); (intro x' t' hx'); (try dsimp only); (try k_sweep); (try k_fold)))
local macro_rules | `(tactic| walk_at "eval ListComp") => `(tactic| (k_here; (with_reducible show wpAny _ _ (eval (PySem.Expr.ListComp _ [⟨_, _, [], 0⟩] _ _) _) _ _ _); k_dflt (refine LCg.ListComp_U (F₀ := by k_asm) (by with_unfolding_all rfl) (by decide) (by rfl) (by decide) (by rfl) ?_)))
local macro_rules | `(tactic| walk_at "eval ListComp") => `(tactic| (k_here; (with_reducible show wpAny _ _ (eval (PySem.Expr.ListComp _ [⟨_, _, [_], 0⟩] _ _) _) _ _ _); k_dflt (refine LCt.ListComp_T (F₀ := by k_asm) (by with_unfolding_all rfl) (by decide) (by rfl) (by decide) (by rfl) ?_)))
local macro_rules | `(tactic| walk_at "CompSrc") => `(tactic| (k_here; (with_reducible show LCg.CompSrc _ _ _ _ _ _ _ (PySem.Expr.Dict _ _ _) _ _ _ _ _ _); (with_reducible refine Stop.mk ?_)))
local macro_rules | `(tactic| walk_at "CompSrc") => `(tactic| (k_here; (with_reducible show LCg.CompSrc _ _ _ _ _ _ _ (PySem.Expr.IfExp _ _ _ _) _ _ _ _ _ _); (with_reducible refine Stop.mk ?_)))
local macro_rules | `(tactic| walk_at "CompEnd") => `(tactic| ((first | (with_reducible show LCg.CompEnd _ _ _ _ _ _ _ _ _ _ _ (fun _ _ => _ ∧ _) _ _) | (with_reducible show LCg.CompEnd _ _ _ _ _ _ _ _ _ _ _ (fun _ _ => _ = _) _ _)); (with_reducible refine Stop.mk ?_)))
local macro_rules | `(tactic| k_all) => `(tactic| ((fail_if_success (refine List.forall_mem_cons.mpr ?_)); (fail_if_success (exact List.forall_mem_nil _)); first | exact ne_of_allLt (by with_reducible assumption) | exact ne_of_all_lt (by with_reducible assumption)))
local macro_rules | `(tactic| k_mem) => `(tactic| ((fail_if_success (refine List.Mem.tail _ ?_)); (fail_if_success (with_reducible show _ ∈ ([] : List (Addr × Obj)))); refine sub_mem (by with_reducible assumption) ?_; k_mem))
local macro_rules | `(tactic| walk_at "subscriptTail Name Name ref int") => `(tactic| (k_here; (with_reducible show wpAny _ _ (subscriptTail _ _ (Value.ref _) (Value.int (Nat.cast _) _)) _ _ _); k_dflt (refine' item_at ?N ?m ?x ?f ?_; (case N => k_asm); (case m => k_mem); (case x => assumption); (case f => omega)); (try dsimp only); (try k_fold)))
local macro_rules | `(tactic| k_all) => `(tactic| ((fail_if_success (refine List.forall_mem_cons.mpr ?_)); (fail_if_success (exact List.forall_mem_nil _)); exact fresh_ne (by with_reducible assumption) (by k_mem)))
local macro_rules | `(tactic| walk_at "FinE") => `(tactic| ((unfold LCg.FinE); intro D' h' tk' F' N' o1'; (try simp only [List.nil_append, List.cons_append] at N'); (try simp only [List.nil_append, List.cons_append] at o1'); (try dsimp only)))
local macro_rules | `(tactic| walk_at "CompSrcT") => `(tactic| (k_here; (with_reducible show LCt.CompSrcT _ _ _ _ _ _ _ _ _ _ _ _ _ _ _); (with_reducible refine Stop.mk ?_)))
local macro_rules | `(tactic| walk_at "call builtin:sorted") => `(tactic| (k_here; k_dflt (refine' sorted_srt ?F ?N ?m ?i ?l ?_; (case F => k_asm); (case N => k_asm); (case m => k_mem); (case i => assumption); (case l => omega)); (intro D' vs' c' h' F' N' l1 hi'); (try k_lt l1); (try dsimp only)))
local macro_rules | `(tactic| walk_at "call ref") => `(tactic| (k_here; (with_reducible show wpAny _ _ (call (Value.ref 56) [Value.ref _, Value.int _ _]) _ _ _); k_dflt (refine' own_hello_c ?hdm ?hod ?hnl ?hnb ?hst ?hid ?hlen ?hm0 ?hm1 ?k1 ?k2 ?k3 ?k4 ?k5 ?kK ?kd ?_; (case k1 => k_asm); (case k2 => k_asm); (case k3 => k_asm); (case k4 => k_asm); (case hdm => k_mem); (case hod => assumption); (case hnl => k_mem); (case hnb => (refine NbAre.up ?_ (by assumption); (intro p hp); (repeat (first | exact hp | apply List.mem_cons_of_mem)))); (case hst => assumption); (case hid => assumption); (case hlen => assumption); (case hm0 => omega); (case hm1 => omega); (case k5 => k_asm); (case kK => first | exact rfl | assumption); (case kd => ktr_room)); (intro D k t0 t1 t2 t3 t4 t5 t6 t7 vs' h' tk' F' N' l1 l2 hI'); (try k_lt l1); (try dsimp only); (try k_sweep); (try k_fold)))
local macro_rules | `(tactic| walk_at "call ref") => `(tactic| (k_here; (with_reducible show wpAny _ _ (call (Value.ref 56) [Value.ref _]) _ _ _); k_dflt (refine' own_hello_d ?hdm ?hod ?hnl ?hnb ?hst ?hid ?hlen ?k1 ?k2 ?k3 ?k4 ?k5 ?kK ?kd ?_; (case k1 => k_asm); (case k2 => k_asm); (case k3 => k_asm); (case k4 => k_asm); (case hdm => k_mem); (case hod => assumption); (case hnl => k_mem); (case hnb => (refine NbAre.up ?_ (by assumption); (intro p hp); (repeat (first | exact hp | apply List.mem_cons_of_mem)))); (case hst => assumption); (case hid => assumption); (case hlen => assumption); (case k5 => k_asm); (case kK => first | exact rfl | assumption); (case kd => ktr_room)); (intro D k t0 t1 t2 t3 t4 t5 t6 t7 vs' h' tk' F' N' l1 l2 hI'); (try k_lt l1); (try dsimp only); (try k_sweep); (try k_fold)))
local macro_rules | `(tactic| walk_at "subscriptTail Name Slice ref ref") => `(tactic| (k_here; (with_reducible show wpAny _ _ (subscriptTail _ (PySem.Expr.Slice _ _ none _) (Value.ref _) (Value.ref _)) _ _ _); k_dflt (refine' kmk_slice_ints ?F ?N ?l ?p ?q ?i ?m ?c ?_ ?s ?t ?z; (case F => k_asm); (case N => k_asm); (case l => exact News.isList (by k_asm) (by k_mem)); (case p => kmk_part); (case q => kmk_part); (case i => assumption); (case m => exact kmk_upto (by assumption) (by omega)); (case c => exact rfl); (case s => with_unfolding_all rfl); (case t => kmk_pure); (case z => exact kmk_sz (by assumption) (by (try rw [srt_length]); rw [sizeLine_eq]; omega))); (intro D' ws' h' F' N' l1 hI' hC' hL'); (try k_lt l1); (try dsimp only); (try k_fold)))
local macro_rules | `(tactic| walk_at "call type:tuple") => `(tactic| (k_here; (with_reducible show wpAny _ _ (call (Value.type "tuple") [Value.ref _]) _ _ _); k_dflt (refine' ints_tuple ?F ?N ?m ?i ?z ?_; (case F => k_asm); (case N => k_asm); (case m => k_mem); (case i => assumption); (case z => assumption)); (intro D' h' F' N' l1); (try k_lt l1); (try dsimp only); (try k_fold)))
local macro_rules | `(tactic| walk_at "compareOp NotEq ref ref") => `(tactic| (k_here; (with_reducible show wpAny _ _ (compareOp CmpOp.NotEq (Value.ref _) (Value.ref _)) _ _ _); k_dflt (refine' hello_same ?N ?h1 ?h2 ?h3 ?h4 ?hi ?hj ?hu ?_; (case N => k_asm); (case h1 => k_mem); (case h2 => k_mem); (case h3 => k_mem); (case h4 => k_mem); (case hi => assumption); (case hj => assumption); (case hu => ke_room)); (try dsimp only); (try k_fold)))
local macro_rules | `(tactic| walk_at "call ref") => `(tactic| (k_here; (with_reducible show wpAny _ _ (call (Value.ref 233) [Value.int _ _, Value.int _ _, Value.ref _]) _ _ _); k_dflt (refine' packet_of_c ?hp ?k1 ?k2 ?k3 ?k4 ?k5 ?kK ?kd ?_; (case k1 => k_asm); (case k2 => k_asm); (case k3 => k_asm); (case k4 => k_asm); (case hp => k_mem); (case k5 => k_asm); (case kK => first | exact rfl | assumption); (case kd => ktr_room)); (intro r' u0' n3' h' tk' F' N' l1); (try k_lt l1); (try dsimp only); (try k_sweep); (try k_fold)))
local macro_rules | `(tactic| walk_at "call ref") => `(tactic| (k_here; (with_reducible show wpAny _ _ (call (Value.ref 226) [Value.ref _, Value.none]) _ _ _); k_dflt (refine' put_packet_c ?hr ?hp ?hkm ?hi ?hin ?hlen ?k1 ?k2 ?k3 ?k4 ?k5 ?kK ?kd ?_; (case k1 => k_asm); (case k2 => k_asm); (case k3 => k_asm); (case k4 => k_asm); (case hr => k_mem); (case hp => k_mem); (case hkm => k_mem); (case hi => assumption); (case hin => assumption); (case hlen => assumption); (case k5 => k_asm); (case kK => first | exact rfl | assumption); (case kd => ktr_room)); (intro b' t' h' tk' hb' F' N'); (try dsimp only); (try k_sweep); (try k_fold)))
local macro_rules | `(tactic| walk_at "call builtin:len") => `(tactic| (k_here; (with_reducible show wpAny _ _ (call (Value.builtin "len") [Value.ref _]) _ _ _); k_dflt (refine' len_ints ?N ?m ?i ?l ?_; (case N => k_asm); (case m => k_mem); (case i => assumption); (case l => omega)); (intro t' tk'); (try dsimp only)))
local macro_rules | `(tactic| walk_at "execs nil") => `(tactic| (k_here; dsimp only))
local macro_rules | `(tactic| walk_at "execs cons") => `(tactic| (k_here; dsimp only))
local macro_rules | `(tactic| walk_at "ite") => `(tactic| first | (with_reducible refine PySem.W.ite_neg (c := (false = true)) Bool.false_ne_true ?_) | (with_reducible refine PySem.W.ite_pos (c := (true = true)) rfl ?_))
theorem law_ok : PySem.Challenge.rw_rh0209_01.Holds := hd rfl rfl rfl (by
  k_go0
  (all_goals try k_fold)
  w_top off
  k_steps
  w_top off
  refine Stop.of ?_
  have hHere := (by assumption : _ ∈ hereL)
  have hGone := (by assumption : _ ∈ goneL)
  have hStep := (by assumption : _ < (4 : Int))
  have hMany := (by assumption : _ < (5 : Int))
  (try k_fmods)
  (try kmn_bounds)
  k_dflt (refine src_range_c (El := fun y (k : Nat) => ∃ t, y = Value.str (if (0 : Int) < List.getD [0, 2, 3, 5] (Int.toNat (subjI hStep)) 0 ∧ Int.fmod (k : Int) (List.getD [0, 2, 3, 5] (Int.toNat (subjI hStep)) 0) = 0 then subj hGone else subj hHere) t) (by rfl) (by k_asm) (by k_asm) (by assumption) (by assumption) (by omega) ?_ ?_)
  · intro g k t I oI C oC D m₂ ys h tk E' hk hC hx F' N' off ne
    (try k_fold)
    have off0 := off
    (try simp only [LCg.Off3, and_true] at off)
    k_steps
    · exact LCg.CompEnd.intro (by assumption) (by assumption) _ (fun p hp => hp) off0 trivial ⟨rfl, _, by rw [if_pos ⟨by assumption, by assumption⟩]⟩
    · exact LCg.CompEnd.intro (by assumption) (by assumption) _ (fun p hp => hp) off0 trivial ⟨rfl, _, by rw [if_neg (fun h => absurd h.2 (by assumption))]⟩
    · exact LCg.CompEnd.intro (by assumption) (by assumption) _ (fun p hp => hp) off0 trivial ⟨rfl, _, by rw [if_neg (fun h => absurd h.1 (by assumption))]⟩
  · intro g ys hlen hE
    obtain ⟨stf, hstf⟩ : ∃ f : Nat → Str, f = fun (k : Nat) => if (0 : Int) < List.getD [0, 2, 3, 5] (Int.toNat (subjI hStep)) 0 ∧ Int.fmod (k : Int) (List.getD [0, 2, 3, 5] (Int.toNat (subjI hStep)) 0) = 0 then subj hGone else subj hHere := ⟨_, rfl⟩
    have hE2 : ∀ (i : Nat) (y : Value), ys[i]? = some y → ∃ t, y = Value.str (stf i) t := by rw [hstf]; exact hE
    have hSt : ∀ k, stf k = subj hHere ∨ stf k = subj hGone := by
      intro k
      rw [hstf]
      dsimp only
      split
      · exact .inr rfl
      · exact .inl rfl
    clear hE
    w_top off
    k_steps
    w_top off
    refine Stop.of ?_
    have hMult := (by assumption : _ < (1008 : Int))
    have hShift := (by assumption : _ < (1009 : Int))
    have hIds := (by assumption : IntsAre _ (List.map (fun k' => 1 + Int.fmod ((1 + subjI hMult) * k' + subjI hShift) 1009) (rangeKs 0 (Int.toNat (List.getD [0, 7, 12, 6, 1] (Int.toNat (subjI hMany)) 0 - 0)))))
    generalize hidf : (fun k' : Int => 1 + Int.fmod ((1 + subjI hMult) * k' + subjI hShift) 1009) = idf at hIds
    k_dflt (refine src_objs (P := fun o k => DictIs PySem.Challenge.rw_rh0209_01.row.prog (by assumption) o (nbSp (idf k, stf k))) (by rfl) (by k_asm) (by k_asm) (by assumption) (by assumption) (by omega) (fun _ _ _ _ hs hf => finE_sub hs hf) ?_ ?_)
    · intro g nws k t I oI C oC D m₂ ys h tk E' hsub hk hC hx F' N' off ne
      (try k_fold)
      obtain ⟨ti, hti⟩ := ids_at hIds hk
      obtain ⟨tst, htst⟩ := sts_at hlen hE2 hk
      k_steps
      refine Stop.of ?_
      have hDI := (by assumption : DictIs _ _ _ (nbSp (idf k, stf k)))
      refine LCg.CompEnd.intro (by assumption) (by assumption) ((_, _) :: nws) ?_ ⟨?_, off⟩ trivial ⟨fun p hp => List.mem_cons_of_mem _ hp, _, _, rfl, List.mem_cons_self, hDI, ?_⟩
      · intro p hp
        simp only [List.mem_cons] at hp ⊢
        rcases hp with h | h | h | h | h
        · exact .inr (.inl h)
        · exact .inr (.inr (.inl h))
        · exact .inr (.inr (.inr (.inl h)))
        · exact .inl h
        · exact .inr (.inr (.inr (.inr h)))
      · have hl := (by assumption : @LT.lt Nat _ I _ ∧ @LT.lt Nat _ C _ ∧ @LT.lt Nat _ D _ ∧ AllLt _ nws)
        exact ⟨Nat.ne_of_gt hl.1, Nat.ne_of_gt hl.2.1, Nat.ne_of_gt hl.2.2.1⟩
      · have hl := (by assumption : @LT.lt Nat _ I _ ∧ @LT.lt Nat _ C _ ∧ @LT.lt Nat _ D _ ∧ AllLt _ nws)
        exact ktn_ltOf hl.2.2.2
    · intro g ys rest hfr hlen3 hE3
      have hNb := nb_of (nws := rest) (f := idf) (g := stf) hlen3 hE3
      clear hE3
      w_top off
      k_steps
      w_top off
      refine Stop.of ?_
      have hIf := (by assumption : DictIs _ _ _ (sput (ifaceSp _) (Str.ofString "neighbours") (.ref _)))
      rw [iface_put] at hIf
      k_dflt (refine src_range_t (fun k => decide (stf k = subj hHere)) (fun k => idf (k : Int)) (by rfl) (by k_asm) (by k_asm) (by assumption) (by assumption) (by omega) ?_ ?_ ?_)
      · intro g k t I oI C oC D m₂ ys h tk E' hk hkeep hC hx F' N' off ne
        (try k_fold)
        have off0 := off
        obtain ⟨ti, hti⟩ := ids_at hIds hk
        obtain ⟨tst, htst⟩ := sts_at hlen hE2 hk
        have hsk : stf k = subj hHere := of_decide_eq_true hkeep
        rw [hsk] at htst
        k_steps
        · refine Stop.of ?_
          exact LCg.CompEnd.intro (by assumption) (by assumption) _ (fun p hp => hp) off0 trivial ⟨rfl, _, rfl⟩
        · exact Bool.noConfusion ((beq_self_eq_true (subj hHere)).symm.trans (by assumption : (subj hHere == subj hHere) = false))
      · intro g k t I oI C oC D m₂ ys h tk E' hk hkeep hC hx F' N' off ne
        (try k_fold)
        have off0 := off
        obtain ⟨ti, hti⟩ := ids_at hIds hk
        obtain ⟨tst, htst⟩ := sts_at hlen hE2 hk
        have hsk : stf k = subj hGone := (hSt k).resolve_left (of_decide_eq_false hkeep)
        rw [hsk] at htst
        have hgn : subj hGone ≠ subj hHere := fun e => gone_not (subj hGone) hGone (show subj hGone ∈ hereL by rw [e]; exact hHere)
        k_steps
        · exact hgn (eq_of_beq (by assumption : (subj hGone == subj hHere) = true))
        · refine Stop.of ?_
          exact LCg.CompEnd.intro (by assumption) (by assumption) _ (fun p hp => hp) off0 trivial rfl
      · intro g ysn hIn
        generalize hnmlE : (List.map (fun (k : Nat) => idf (k : Int)) (List.filter (fun k => decide (stf k = subj hHere)) (List.range (Int.toNat (List.getD [0, 7, 12, 6, 1] (Int.toNat (subjI hMany)) 0))))) = nml at hIn
        generalize hnbE : (List.map (fun (k : Nat) => (idf (k : Int), stf k)) (List.range (Int.toNat (List.getD [0, 7, 12, 6, 1] (Int.toNat (subjI hMany)) 0)))) = nb at hNb
        obtain ⟨hnbS, hnbN, hnbL, hnbF, hnmL, hnmB⟩ := nb_facts (by assumption) hMult hHere hGone hSt (by assumption) hidf hnbE hnmlE
        w_top off
        repeat' (first | (with_reducible show wpAny _ _ (call (Value.ref 56) _) _ _ _; with_reducible refine Stop.mk ?_) | (first | (k_unfold; (try dsimp only)) | (k_end; wrow_close) | walk1 | (dsimp only; walk1) | (leave1; walk_say "STEP leave1"; try dsimp only)))
        · w_top off
          with_reducible refine Stop.of ?_
          iterate 21 (first | (k_unfold; (try dsimp only)) | (k_end; wrow_close) | walk1 | (dsimp only; walk1) | (leave1; walk_say "STEP leave1"; try dsimp only))
          have hKq := (by assumption : IntsAre _ (List.take _ (srt nml)))
          have hKp := (by assumption : IntsAre _ (List.take _ (srt (List.map (fun (a : Int × Str) => a.1) (List.filter (fun a => told a.2) nb)))))
          rw [hnbF] at hKp
          have hMost := (by assumption : _ < (13 : Int))
          generalize hkpE : List.take (Int.toNat (subjI hMost)) (srt nml) = kp at hKp hKq
          obtain ⟨hkpL, hkpB⟩ := kp_facts hkpE hnmL hnmB
          w_top off
          k_steps
        · w_top off
          with_reducible refine Stop.of ?_
          iterate 13 (first | (k_unfold; (try dsimp only)) | (k_end; wrow_close) | walk1 | (dsimp only; walk1) | (leave1; walk_say "STEP leave1"; try dsimp only))
          have hKq := (by assumption : IntsAre _ (srt nml))
          have hKp := (by assumption : IntsAre _ (List.take _ (srt (List.map (fun (a : Int × Str) => a.1) (List.filter (fun a => told a.2) nb)))))
          rw [hnbF, take_all hnmL] at hKp
          obtain ⟨hkpL, hkpB⟩ := kp_facts (take_all hnmL) hnmL hnmB
          generalize hkpE : srt nml = kp at hKp hKq hkpL hkpB
          k_steps)
end Mine
end
theorem PySem.Challenge.cw_rh0209_01_holds : PySem.Challenge.rw_rh0209_01.Holds := by
  exact Mine.law_ok
